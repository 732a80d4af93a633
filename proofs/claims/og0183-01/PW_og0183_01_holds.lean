import PyProof.Rows.All
import Wide.All
import OpenK.AllK
import Wide.FinOn
import PySem.Challenge.RW_og0183_01
open PySem PySem.W PyProof.Rows
set_option Elab.async false
set_option maxRecDepth 100000
set_option maxHeartbeats 8000000
namespace Mine


/-- a statement of the text's top; a statement of a class's body -/
noncomputable def stAt (i : Nat) : Stmt := (PySem.Challenge.pw_og0183_01.main.body)[i]?.getD (.Pass ⟨0, 0, 0, 0⟩)
noncomputable def cBody : Stmt → List Stmt
  | .ClassDef _ _ _ b _ _ _ _ _ _ _ => b
  | _ => []
noncomputable def meAt (i j : Nat) : Stmt := (cBody (stAt i))[j]?.getD (.Pass ⟨0, 0, 0, 0⟩)
noncomputable def fArgs : Stmt → Arguments
  | .FunctionDef _ a _ _ _ _ _ _ _ _ => a
  | _ => ⟨[], [], none, [], [], none, []⟩
noncomputable def fBody : Stmt → List Stmt
  | .FunctionDef _ _ b _ _ _ _ _ _ _ => b
  | _ => []
noncomputable def fScope : Stmt → Scope
  | .FunctionDef _ _ _ _ _ _ s _ _ _ => s
  | _ => { kind := .function, names := [], isGenerator := false, isCoroutine := false, more := [] }
noncomputable abbrev S (x : String) : Str := Str.ofString x
/-- the objects that the top leaves and that the walk reads -/
noncomputable def KK (P : Params) : Frag := [
  (3, ⟨(.type "dict"), none, .dict (List.toArray [⟨PyData.keyHash P (S "__name__"), .str (S "__name__") 165, (.str (S "law_og0183_01") 701)⟩, ⟨PyData.keyHash P (S "__doc__"), .str (S "__doc__") 166, .none⟩, ⟨PyData.keyHash P (S "__package__"), .str (S "__package__") 167, .none⟩, ⟨PyData.keyHash P (S "__loader__"), .str (S "__loader__") 168, (.builtin "__main__.__loader__#opaque")⟩, ⟨PyData.keyHash P (S "__spec__"), .str (S "__spec__") 169, .none⟩, ⟨PyData.keyHash P (S "__annotations__"), .str (S "__annotations__") 170, (.ref 6)⟩, ⟨PyData.keyHash P (S "__builtins__"), .str (S "__builtins__") 171, (.ref 4)⟩, ⟨PyData.keyHash P (S "__file__"), .str (S "__file__") 173, (.str (S "/claim/cut.py") 172)⟩, ⟨PyData.keyHash P (S "__cached__"), .str (S "__cached__") 174, .none⟩, ⟨PyData.keyHash P (S "_wall"), .str (S "_wall") 193, (.ref 21)⟩, ⟨PyData.keyHash P (S "PaperError"), .str (S "PaperError") 235, (.ref 46)⟩, ⟨PyData.keyHash P (S "SyntaxFault"), .str (S "SyntaxFault") 251, (.ref 59)⟩, ⟨PyData.keyHash P (S "WHITE"), .str (S "WHITE") 260, (.ref 62)⟩, ⟨PyData.keyHash P (S "DELIMITERS"), .str (S "DELIMITERS") 271, (.ref 63)⟩, ⟨PyData.keyHash P (S "LINE_FEED"), .str (S "LINE_FEED") 273, (.int (10) 272)⟩, ⟨PyData.keyHash P (S "RETURN"), .str (S "RETURN") 275, (.int (13) 274)⟩, ⟨PyData.keyHash P (S "COMMENT"), .str (S "COMMENT") 277, (.int (37) 276)⟩, ⟨PyData.keyHash P (S "MOST_FIGURES_cursor"), .str (S "MOST_FIGURES_cursor") 279, (.int (20) 278)⟩, ⟨PyData.keyHash P (S "is_white"), .str (S "is_white") 286, (.ref 70)⟩, ⟨PyData.keyHash P (S "is_regular"), .str (S "is_regular") 293, (.ref 77)⟩, ⟨PyData.keyHash P (S "is_figure"), .str (S "is_figure") 300, (.ref 84)⟩, ⟨PyData.keyHash P (S "Cursor"), .str (S "Cursor") 433, (.ref 187)⟩, ⟨PyData.keyHash P (S "MOST_FIGURES_decimals"), .str (S "MOST_FIGURES_decimals") 437, (.int (40) 436)⟩, ⟨PyData.keyHash P (S "PLUS"), .str (S "PLUS") 439, (.int (43) 438)⟩, ⟨PyData.keyHash P (S "MINUS"), .str (S "MINUS") 441, (.int (45) 440)⟩, ⟨PyData.keyHash P (S "POINT"), .str (S "POINT") 443, (.int (46) 442)⟩, ⟨PyData.keyHash P (S "ZERO"), .str (S "ZERO") 445, (.int (48) 444)⟩, ⟨PyData.keyHash P (S "Decimal"), .str (S "Decimal") 559, (.ref 285)⟩, ⟨PyData.keyHash P (S "sign_text"), .str (S "sign_text") 566, (.ref 296)⟩, ⟨PyData.keyHash P (S "read_decimal"), .str (S "read_decimal") 578, (.ref 303)⟩, ⟨PyData.keyHash P (S "PAREN"), .str (S "PAREN") 582, (.int (40) 581)⟩, ⟨PyData.keyHash P (S "CLOSE_PAREN"), .str (S "CLOSE_PAREN") 584, (.int (41) 583)⟩, ⟨PyData.keyHash P (S "LESS"), .str (S "LESS") 586, (.int (60) 585)⟩, ⟨PyData.keyHash P (S "GREATER"), .str (S "GREATER") 588, (.int (62) 587)⟩, ⟨PyData.keyHash P (S "SLASH"), .str (S "SLASH") 590, (.int (47) 589)⟩, ⟨PyData.keyHash P (S "BACKSLASH"), .str (S "BACKSLASH") 592, (.int (92) 591)⟩, ⟨PyData.keyHash P (S "HASH"), .str (S "HASH") 594, (.int (35) 593)⟩, ⟨PyData.keyHash P (S "SIGNS"), .str (S "SIGNS") 599, (.ref 304)⟩, ⟨PyData.keyHash P (S "hex_worth"), .str (S "hex_worth") 606, (.ref 311)⟩, ⟨PyData.keyHash P (S "plain_escape"), .str (S "plain_escape") 613, (.ref 318)⟩, ⟨PyData.keyHash P (S "name_text"), .str (S "name_text") 628, (.ref 326)⟩, ⟨PyData.keyHash P (S "octal"), .str (S "octal") 638, (.ref 333)⟩, ⟨PyData.keyHash P (S "escaped_codes"), .str (S "escaped_codes") 646, (.ref 340)⟩, ⟨PyData.keyHash P (S "literal"), .str (S "literal") 657, (.ref 347)⟩, ⟨PyData.keyHash P (S "hex_string"), .str (S "hex_string") 663, (.ref 352)⟩, ⟨PyData.keyHash P (S "run_token"), .str (S "run_token") 673, (.ref 359)⟩, ⟨PyData.keyHash P (S "delimited_token"), .str (S "delimited_token") 682, (.ref 366)⟩, ⟨PyData.keyHash P (S "next_token"), .str (S "next_token") 691, (.ref 373)⟩, ⟨PyData.keyHash P (S "tokens_of"), .str (S "tokens_of") 700, (.ref 380)⟩, ⟨PyData.keyHash P (S "_law_pieces"), .str (S "_law_pieces") 727, (.ref 381)⟩, ⟨PyData.keyHash P (S "_law_whites"), .str (S "_law_whites") 733, (.ref 388)⟩, ⟨PyData.keyHash P (S "_law_draw"), .str (S "_law_draw") 746, (.ref 395)⟩, ⟨PyData.keyHash P (S "_law_part"), .str (S "_law_part") 752, (.ref 400)⟩, ⟨PyData.keyHash P (S "_law_told"), .str (S "_law_told") 764, (.ref 407)⟩, ⟨PyData.keyHash P (S "law"), .str (S "law") 770, (.ref 412)⟩]) 55, List.toArray []⟩),
  (62, ⟨(.type "tuple"), none, .seq (List.toArray [(.int (0) 254), (.int (9) 255), (.int (10) 256), (.int (12) 257), (.int (13) 258), (.int (32) 259)]) 0, List.toArray []⟩),
  (63, ⟨(.type "tuple"), none, .seq (List.toArray [(.int (40) 261), (.int (41) 262), (.int (60) 263), (.int (62) 264), (.int (91) 265), (.int (93) 266), (.int (123) 267), (.int (125) 268), (.int (47) 269), (.int (37) 270)]) 0, List.toArray []⟩),
  (69, ⟨(.type "code"), none, .fields (List.toArray [(.str (S "is_white") 280), (.str (S "is_white") 281), (.str (S "/claim/cut.py") 282), (.int (23) 0), (.int (1) 0), (.int (0) 0), (.int (0) 0), (.int (3) 0), (.ref 64), (.bool true), (.int (181) 0), (.ref 65), .none, (.ref 66), (.ref 67), (.ref 68), (.int (284) 0), (.int (23) 0), (.str (S "/claim/cut.py") 285)]), List.toArray []⟩),
  (70, ⟨(.type "function"), none, .func (fnOf (S "is_white") (S "is_white") (fArgs (stAt 11)) (fBody (stAt 11)) (fScope (stAt 11)) .none .none .none (.str (S "paperhold.cursor") 252) none (.ref 69) .none), List.toArray []⟩),
  (76, ⟨(.type "code"), none, .fields (List.toArray [(.str (S "is_regular") 287), (.str (S "is_regular") 288), (.str (S "/claim/cut.py") 289), (.int (25) 0), (.int (1) 0), (.int (0) 0), (.int (0) 0), (.int (3) 0), (.ref 71), (.bool true), (.int (181) 0), (.ref 72), .none, (.ref 73), (.ref 74), (.ref 75), (.int (291) 0), (.int (25) 0), (.str (S "/claim/cut.py") 292)]), List.toArray []⟩),
  (77, ⟨(.type "function"), none, .func (fnOf (S "is_regular") (S "is_regular") (fArgs (stAt 12)) (fBody (stAt 12)) (fScope (stAt 12)) .none .none .none (.str (S "paperhold.cursor") 252) none (.ref 76) .none), List.toArray []⟩),
  (92, ⟨(.type "tuple"), none, .seq (List.toArray [(.int (0) 313), (.int (-1) 315)]) 0, List.toArray []⟩),
  (98, ⟨(.type "code"), none, .fields (List.toArray [(.str (S "__init__") 316), (.str (S "Cursor.__init__") 317), (.str (S "/claim/cut.py") 318), (.int (31) 0), (.int (4) 0), (.int (0) 0), (.int (0) 0), (.int (3) 0), (.ref 93), (.bool true), (.int (181) 0), (.ref 94), .none, (.ref 95), (.ref 96), (.ref 97), (.int (323) 0), (.int (31) 0), (.str (S "/claim/cut.py") 324)]), List.toArray []⟩),
  (99, ⟨(.type "function"), none, .func (fnOf (S "__init__") (S "Cursor.__init__") (fArgs (meAt 14 0)) (fBody (meAt 14 0)) (fScope (meAt 14 0)) (.ref 92) .none .none (.str (S "paperhold.cursor") 252) none (.ref 98) .none), List.toArray []⟩),
  (105, ⟨(.type "code"), none, .fields (List.toArray [(.str (S "is_done") 326), (.str (S "Cursor.is_done") 327), (.str (S "/claim/cut.py") 328), (.int (36) 0), (.int (1) 0), (.int (0) 0), (.int (0) 0), (.int (3) 0), (.ref 100), (.bool true), (.int (181) 0), (.ref 101), .none, (.ref 102), (.ref 103), (.ref 104), (.int (330) 0), (.int (36) 0), (.str (S "/claim/cut.py") 331)]), List.toArray []⟩),
  (106, ⟨(.type "function"), none, .func (fnOf (S "is_done") (S "Cursor.is_done") (fArgs (meAt 14 1)) (fBody (meAt 14 1)) (fScope (meAt 14 1)) .none .none .none (.str (S "paperhold.cursor") 252) none (.ref 105) .none), List.toArray []⟩),
  (107, ⟨(.type "tuple"), none, .seq (List.toArray [(.int (0) 333)]) 0, List.toArray []⟩),
  (113, ⟨(.type "code"), none, .fields (List.toArray [(.str (S "peek") 334), (.str (S "Cursor.peek") 335), (.str (S "/claim/cut.py") 336), (.int (39) 0), (.int (2) 0), (.int (0) 0), (.int (0) 0), (.int (3) 0), (.ref 108), (.bool true), (.int (181) 0), (.ref 109), .none, (.ref 110), (.ref 111), (.ref 112), (.int (340) 0), (.int (39) 0), (.str (S "/claim/cut.py") 341)]), List.toArray []⟩),
  (114, ⟨(.type "function"), none, .func (fnOf (S "peek") (S "Cursor.peek") (fArgs (meAt 14 2)) (fBody (meAt 14 2)) (fScope (meAt 14 2)) (.ref 107) .none .none (.str (S "paperhold.cursor") 252) none (.ref 113) .none), List.toArray []⟩),
  (120, ⟨(.type "code"), none, .fields (List.toArray [(.str (S "take") 343), (.str (S "Cursor.take") 344), (.str (S "/claim/cut.py") 345), (.int (43) 0), (.int (1) 0), (.int (0) 0), (.int (0) 0), (.int (3) 0), (.ref 115), (.bool true), (.int (181) 0), (.ref 116), .none, (.ref 117), (.ref 118), (.ref 119), (.int (348) 0), (.int (43) 0), (.str (S "/claim/cut.py") 349)]), List.toArray []⟩),
  (121, ⟨(.type "function"), none, .func (fnOf (S "take") (S "Cursor.take") (fArgs (meAt 14 3)) (fBody (meAt 14 3)) (fScope (meAt 14 3)) .none .none .none (.str (S "paperhold.cursor") 252) none (.ref 120) .none), List.toArray []⟩),
  (127, ⟨(.type "code"), none, .fields (List.toArray [(.str (S "starts") 351), (.str (S "Cursor.starts") 352), (.str (S "/claim/cut.py") 353), (.int (50) 0), (.int (2) 0), (.int (0) 0), (.int (0) 0), (.int (3) 0), (.ref 122), (.bool true), (.int (181) 0), (.ref 123), .none, (.ref 124), (.ref 125), (.ref 126), (.int (356) 0), (.int (50) 0), (.str (S "/claim/cut.py") 357)]), List.toArray []⟩),
  (128, ⟨(.type "function"), none, .func (fnOf (S "starts") (S "Cursor.starts") (fArgs (meAt 14 4)) (fBody (meAt 14 4)) (fScope (meAt 14 4)) .none .none .none (.str (S "paperhold.cursor") 252) none (.ref 127) .none), List.toArray []⟩),
  (134, ⟨(.type "code"), none, .fields (List.toArray [(.str (S "skip") 359), (.str (S "Cursor.skip") 360), (.str (S "/claim/cut.py") 361), (.int (53) 0), (.int (2) 0), (.int (0) 0), (.int (0) 0), (.int (3) 0), (.ref 129), (.bool true), (.int (181) 0), (.ref 130), .none, (.ref 131), (.ref 132), (.ref 133), (.int (364) 0), (.int (53) 0), (.str (S "/claim/cut.py") 365)]), List.toArray []⟩),
  (135, ⟨(.type "function"), none, .func (fnOf (S "skip") (S "Cursor.skip") (fArgs (meAt 14 5)) (fBody (meAt 14 5)) (fScope (meAt 14 5)) .none .none .none (.str (S "paperhold.cursor") 252) none (.ref 134) .none), List.toArray []⟩),
  (141, ⟨(.type "code"), none, .fields (List.toArray [(.str (S "skip_white") 367), (.str (S "Cursor.skip_white") 368), (.str (S "/claim/cut.py") 369), (.int (59) 0), (.int (1) 0), (.int (0) 0), (.int (0) 0), (.int (3) 0), (.ref 136), (.bool true), (.int (181) 0), (.ref 137), .none, (.ref 138), (.ref 139), (.ref 140), (.int (372) 0), (.int (59) 0), (.str (S "/claim/cut.py") 373)]), List.toArray []⟩),
  (142, ⟨(.type "function"), none, .func (fnOf (S "skip_white") (S "Cursor.skip_white") (fArgs (meAt 14 6)) (fBody (meAt 14 6)) (fScope (meAt 14 6)) .none .none .none (.str (S "paperhold.cursor") 252) none (.ref 141) .none), List.toArray []⟩),
  (148, ⟨(.type "code"), none, .fields (List.toArray [(.str (S "take_regular") 375), (.str (S "Cursor.take_regular") 376), (.str (S "/claim/cut.py") 377), (.int (70) 0), (.int (1) 0), (.int (0) 0), (.int (0) 0), (.int (3) 0), (.ref 143), (.bool true), (.int (181) 0), (.ref 144), .none, (.ref 145), (.ref 146), (.ref 147), (.int (380) 0), (.int (70) 0), (.str (S "/claim/cut.py") 381)]), List.toArray []⟩),
  (149, ⟨(.type "function"), none, .func (fnOf (S "take_regular") (S "Cursor.take_regular") (fArgs (meAt 14 7)) (fBody (meAt 14 7)) (fScope (meAt 14 7)) .none .none .none (.str (S "paperhold.cursor") 252) none (.ref 148) .none), List.toArray []⟩),
  (155, ⟨(.type "code"), none, .fields (List.toArray [(.str (S "skip_line_end") 383), (.str (S "Cursor.skip_line_end") 384), (.str (S "/claim/cut.py") 385), (.int (76) 0), (.int (1) 0), (.int (0) 0), (.int (0) 0), (.int (3) 0), (.ref 150), (.bool true), (.int (181) 0), (.ref 151), .none, (.ref 152), (.ref 153), (.ref 154), (.int (387) 0), (.int (76) 0), (.str (S "/claim/cut.py") 388)]), List.toArray []⟩),
  (156, ⟨(.type "function"), none, .func (fnOf (S "skip_line_end") (S "Cursor.skip_line_end") (fArgs (meAt 14 8)) (fBody (meAt 14 8)) (fScope (meAt 14 8)) .none .none .none (.str (S "paperhold.cursor") 252) none (.ref 155) .none), List.toArray []⟩),
  (186, ⟨(.type "dict"), none, .dict (List.toArray [⟨PyData.keyHash P (S "__module__"), .str (S "__module__") 308, (.str (S "paperhold.cursor") 252)⟩, ⟨PyData.keyHash P (S "__firstlineno__"), .str (S "__firstlineno__") 312, (.int (29) 311)⟩, ⟨PyData.keyHash P (S "__init__"), .str (S "__init__") 325, (.ref 99)⟩, ⟨PyData.keyHash P (S "is_done"), .str (S "is_done") 332, (.ref 106)⟩, ⟨PyData.keyHash P (S "peek"), .str (S "peek") 342, (.ref 114)⟩, ⟨PyData.keyHash P (S "take"), .str (S "take") 350, (.ref 121)⟩, ⟨PyData.keyHash P (S "starts"), .str (S "starts") 358, (.ref 128)⟩, ⟨PyData.keyHash P (S "skip"), .str (S "skip") 366, (.ref 135)⟩, ⟨PyData.keyHash P (S "skip_white"), .str (S "skip_white") 374, (.ref 142)⟩, ⟨PyData.keyHash P (S "take_regular"), .str (S "take_regular") 382, (.ref 149)⟩, ⟨PyData.keyHash P (S "skip_line_end"), .str (S "skip_line_end") 389, (.ref 156)⟩, ⟨PyData.keyHash P (S "take_line"), .str (S "take_line") 396, (.ref 163)⟩, ⟨PyData.keyHash P (S "number"), .str (S "number") 405, (.ref 170)⟩, ⟨PyData.keyHash P (S "find"), .str (S "find") 414, (.ref 177)⟩, ⟨PyData.keyHash P (S "find_last"), .str (S "find_last") 422, (.ref 184)⟩, ⟨PyData.keyHash P (S "__static_attributes__"), .str (S "__static_attributes__") 426, (.ref 185)⟩, ⟨PyData.keyHash P (S "__dict__"), .str (S "__dict__") 428, (.ref 188)⟩, ⟨PyData.keyHash P (S "__weakref__"), .str (S "__weakref__") 430, (.ref 189)⟩, ⟨PyData.keyHash P (S "__doc__"), .str (S "__doc__") 431, .none⟩]) 4, List.toArray []⟩),
  (187, ⟨(.type "type"), none, .cls ⟨(S "Cursor"), [(.type "object")], [(.ref 187), (.type "object")], 186, (S "Cursor"), true, [], [], false, none, false⟩, List.toArray [none, none, some (.str (S "Cursor") 301), some (.str (S "Cursor") 309), some (.builtin "object.__new__"), some (.bool true)]⟩),
  (204, ⟨(.type "code"), none, .fields (List.toArray [(.str (S "__init__") 458), (.str (S "Decimal.__init__") 459), (.str (S "/claim/cut.py") 460), (.int (113) 0), (.int (3) 0), (.int (0) 0), (.int (0) 0), (.int (3) 0), (.ref 199), (.bool true), (.int (181) 0), (.ref 200), .none, (.ref 201), (.ref 202), (.ref 203), (.int (464) 0), (.int (113) 0), (.str (S "/claim/cut.py") 465)]), List.toArray []⟩),
  (205, ⟨(.type "function"), none, .func (fnOf (S "__init__") (S "Decimal.__init__") (fArgs (meAt 21 0)) (fBody (meAt 21 0)) (fScope (meAt 21 0)) .none .none .none (.str (S "paperhold.decimals") 434) none (.ref 204) .none), List.toArray []⟩),
  (267, ⟨(.type "code"), none, .fields (List.toArray [(.str (S "told") 528), (.str (S "Decimal.told") 529), (.str (S "/claim/cut.py") 530), (.int (144) 0), (.int (1) 0), (.int (0) 0), (.int (0) 0), (.int (3) 0), (.ref 262), (.bool true), (.int (181) 0), (.ref 263), .none, (.ref 264), (.ref 265), (.ref 266), (.int (532) 0), (.int (144) 0), (.str (S "/claim/cut.py") 533)]), List.toArray []⟩),
  (268, ⟨(.type "function"), none, .func (fnOf (S "told") (S "Decimal.told") (fArgs (meAt 21 9)) (fBody (meAt 21 9)) (fScope (meAt 21 9)) .none .none .none (.str (S "paperhold.decimals") 434) none (.ref 267) .none), List.toArray []⟩),
  (284, ⟨(.type "dict"), none, .dict (List.toArray [⟨PyData.keyHash P (S "__module__"), .str (S "__module__") 453, (.str (S "paperhold.decimals") 434)⟩, ⟨PyData.keyHash P (S "__firstlineno__"), .str (S "__firstlineno__") 457, (.int (111) 456)⟩, ⟨PyData.keyHash P (S "__init__"), .str (S "__init__") 466, (.ref 205)⟩, ⟨PyData.keyHash P (S "plus"), .str (S "plus") 474, (.ref 212)⟩, ⟨PyData.keyHash P (S "minus"), .str (S "minus") 482, (.ref 219)⟩, ⟨PyData.keyHash P (S "times"), .str (S "times") 490, (.ref 226)⟩, ⟨PyData.keyHash P (S "negated"), .str (S "negated") 497, (.ref 233)⟩, ⟨PyData.keyHash P (S "compared"), .str (S "compared") 505, (.ref 240)⟩, ⟨PyData.keyHash P (S "is_whole"), .str (S "is_whole") 512, (.ref 247)⟩, ⟨PyData.keyHash P (S "floor"), .str (S "floor") 519, (.ref 254)⟩, ⟨PyData.keyHash P (S "rounded"), .str (S "rounded") 527, (.ref 261)⟩, ⟨PyData.keyHash P (S "told"), .str (S "told") 534, (.ref 268)⟩, ⟨PyData.keyHash P (S "text"), .str (S "text") 542, (.ref 275)⟩, ⟨PyData.keyHash P (S "least_text"), .str (S "least_text") 549, (.ref 282)⟩, ⟨PyData.keyHash P (S "__static_attributes__"), .str (S "__static_attributes__") 552, (.ref 283)⟩, ⟨PyData.keyHash P (S "__dict__"), .str (S "__dict__") 554, (.ref 286)⟩, ⟨PyData.keyHash P (S "__weakref__"), .str (S "__weakref__") 556, (.ref 287)⟩, ⟨PyData.keyHash P (S "__doc__"), .str (S "__doc__") 557, .none⟩]) 4, List.toArray []⟩),
  (285, ⟨(.type "type"), none, .cls ⟨(S "Decimal"), [(.type "object")], [(.ref 285), (.type "object")], 284, (S "Decimal"), true, [], [], false, none, false⟩, List.toArray [none, none, some (.str (S "Decimal") 446), some (.str (S "Decimal") 454), some (.builtin "object.__new__"), some (.bool true)]⟩),
  (302, ⟨(.type "code"), none, .fields (List.toArray [(.str (S "read_decimal") 567), (.str (S "read_decimal") 568), (.str (S "/claim/cut.py") 569), (.int (158) 0), (.int (1) 0), (.int (0) 0), (.int (0) 0), (.int (3) 0), (.ref 297), (.bool true), (.int (181) 0), (.ref 298), .none, (.ref 299), (.ref 300), (.ref 301), (.int (576) 0), (.int (158) 0), (.str (S "/claim/cut.py") 577)]), List.toArray []⟩),
  (303, ⟨(.type "function"), none, .func (fnOf (S "read_decimal") (S "read_decimal") (fArgs (stAt 23)) (fBody (stAt 23)) (fScope (stAt 23)) .none .none .none (.str (S "paperhold.decimals") 434) none (.ref 302) .none), List.toArray []⟩),
  (304, ⟨(.type "tuple"), none, .seq (List.toArray [(.int (91) 595), (.int (93) 596), (.int (123) 597), (.int (125) 598)]) 0, List.toArray []⟩),
  (310, ⟨(.type "code"), none, .fields (List.toArray [(.str (S "hex_worth") 600), (.str (S "hex_worth") 601), (.str (S "/claim/cut.py") 602), (.int (189) 0), (.int (1) 0), (.int (0) 0), (.int (0) 0), (.int (3) 0), (.ref 305), (.bool true), (.int (181) 0), (.ref 306), .none, (.ref 307), (.ref 308), (.ref 309), (.int (604) 0), (.int (189) 0), (.str (S "/claim/cut.py") 605)]), List.toArray []⟩),
  (311, ⟨(.type "function"), none, .func (fnOf (S "hex_worth") (S "hex_worth") (fArgs (stAt 33)) (fBody (stAt 33)) (fScope (stAt 33)) .none .none .none (.str (S "paperhold.lexer") 579) none (.ref 310) .none), List.toArray []⟩),
  (317, ⟨(.type "code"), none, .fields (List.toArray [(.str (S "plain_escape") 607), (.str (S "plain_escape") 608), (.str (S "/claim/cut.py") 609), (.int (197) 0), (.int (1) 0), (.int (0) 0), (.int (0) 0), (.int (3) 0), (.ref 312), (.bool true), (.int (181) 0), (.ref 313), .none, (.ref 314), (.ref 315), (.ref 316), (.int (611) 0), (.int (197) 0), (.str (S "/claim/cut.py") 612)]), List.toArray []⟩),
  (318, ⟨(.type "function"), none, .func (fnOf (S "plain_escape") (S "plain_escape") (fArgs (stAt 34)) (fBody (stAt 34)) (fScope (stAt 34)) .none .none .none (.str (S "paperhold.lexer") 579) none (.ref 317) .none), List.toArray []⟩),
  (319, ⟨(.type "tuple"), none, .seq (List.toArray [(.int (-1) 615)]) 0, List.toArray []⟩),
  (325, ⟨(.type "code"), none, .fields (List.toArray [(.str (S "name_text") 616), (.str (S "name_text") 617), (.str (S "/claim/cut.py") 618), (.int (209) 0), (.int (2) 0), (.int (0) 0), (.int (0) 0), (.int (3) 0), (.ref 320), (.bool true), (.int (181) 0), (.ref 321), .none, (.ref 322), (.ref 323), (.ref 324), (.int (626) 0), (.int (209) 0), (.str (S "/claim/cut.py") 627)]), List.toArray []⟩),
  (326, ⟨(.type "function"), none, .func (fnOf (S "name_text") (S "name_text") (fArgs (stAt 35)) (fBody (stAt 35)) (fScope (stAt 35)) (.ref 319) .none .none (.str (S "paperhold.lexer") 579) none (.ref 325) .none), List.toArray []⟩),
  (332, ⟨(.type "code"), none, .fields (List.toArray [(.str (S "octal") 629), (.str (S "octal") 630), (.str (S "/claim/cut.py") 631), (.int (225) 0), (.int (2) 0), (.int (0) 0), (.int (0) 0), (.int (3) 0), (.ref 327), (.bool true), (.int (181) 0), (.ref 328), .none, (.ref 329), (.ref 330), (.ref 331), (.int (636) 0), (.int (225) 0), (.str (S "/claim/cut.py") 637)]), List.toArray []⟩),
  (333, ⟨(.type "function"), none, .func (fnOf (S "octal") (S "octal") (fArgs (stAt 36)) (fBody (stAt 36)) (fScope (stAt 36)) .none .none .none (.str (S "paperhold.lexer") 579) none (.ref 332) .none), List.toArray []⟩),
  (339, ⟨(.type "code"), none, .fields (List.toArray [(.str (S "escaped_codes") 639), (.str (S "escaped_codes") 640), (.str (S "/claim/cut.py") 641), (.int (232) 0), (.int (1) 0), (.int (0) 0), (.int (0) 0), (.int (3) 0), (.ref 334), (.bool true), (.int (181) 0), (.ref 335), .none, (.ref 336), (.ref 337), (.ref 338), (.int (644) 0), (.int (232) 0), (.str (S "/claim/cut.py") 645)]), List.toArray []⟩),
  (340, ⟨(.type "function"), none, .func (fnOf (S "escaped_codes") (S "escaped_codes") (fArgs (stAt 37)) (fBody (stAt 37)) (fScope (stAt 37)) .none .none .none (.str (S "paperhold.lexer") 579) none (.ref 339) .none), List.toArray []⟩),
  (346, ⟨(.type "code"), none, .fields (List.toArray [(.str (S "literal") 647), (.str (S "literal") 648), (.str (S "/claim/cut.py") 649), (.int (241) 0), (.int (1) 0), (.int (0) 0), (.int (0) 0), (.int (3) 0), (.ref 341), (.bool true), (.int (181) 0), (.ref 342), .none, (.ref 343), (.ref 344), (.ref 345), (.int (655) 0), (.int (241) 0), (.str (S "/claim/cut.py") 656)]), List.toArray []⟩),
  (347, ⟨(.type "function"), none, .func (fnOf (S "literal") (S "literal") (fArgs (stAt 38)) (fBody (stAt 38)) (fScope (stAt 38)) .none .none .none (.str (S "paperhold.lexer") 579) none (.ref 346) .none), List.toArray []⟩),
  (351, ⟨(.type "code"), none, .fields (List.toArray [(.str (S "hex_string") 658), (.str (S "hex_string") 659), (.str (S "/claim/cut.py") 660), (.int (261) 0), (.int (1) 0), (.int (0) 0), (.int (0) 0), (.int (3) 0), (.ref 348), (.bool true), (.int (181) 0), (.ref 349), .none, .none, .none, (.ref 350), (.int (661) 0), (.int (261) 0), (.str (S "/claim/cut.py") 662)]), List.toArray []⟩),
  (352, ⟨(.type "function"), none, .func (fnOf (S "hex_string") (S "hex_string") (fArgs (stAt 39)) (fBody (stAt 39)) (fScope (stAt 39)) .none .none .none (.str (S "paperhold.lexer") 579) none (.ref 351) .none), List.toArray []⟩),
  (358, ⟨(.type "code"), none, .fields (List.toArray [(.str (S "run_token") 664), (.str (S "run_token") 665), (.str (S "/claim/cut.py") 666), (.int (276) 0), (.int (2) 0), (.int (0) 0), (.int (0) 0), (.int (3) 0), (.ref 353), (.bool true), (.int (181) 0), (.ref 354), .none, (.ref 355), (.ref 356), (.ref 357), (.int (671) 0), (.int (276) 0), (.str (S "/claim/cut.py") 672)]), List.toArray []⟩),
  (359, ⟨(.type "function"), none, .func (fnOf (S "run_token") (S "run_token") (fArgs (stAt 40)) (fBody (stAt 40)) (fScope (stAt 40)) .none .none .none (.str (S "paperhold.lexer") 579) none (.ref 358) .none), List.toArray []⟩),
  (365, ⟨(.type "code"), none, .fields (List.toArray [(.str (S "delimited_token") 674), (.str (S "delimited_token") 675), (.str (S "/claim/cut.py") 676), (.int (284) 0), (.int (3) 0), (.int (0) 0), (.int (0) 0), (.int (3) 0), (.ref 360), (.bool true), (.int (181) 0), (.ref 361), .none, (.ref 362), (.ref 363), (.ref 364), (.int (680) 0), (.int (284) 0), (.str (S "/claim/cut.py") 681)]), List.toArray []⟩),
  (366, ⟨(.type "function"), none, .func (fnOf (S "delimited_token") (S "delimited_token") (fArgs (stAt 41)) (fBody (stAt 41)) (fScope (stAt 41)) .none .none .none (.str (S "paperhold.lexer") 579) none (.ref 365) .none), List.toArray []⟩),
  (372, ⟨(.type "code"), none, .fields (List.toArray [(.str (S "next_token") 683), (.str (S "next_token") 684), (.str (S "/claim/cut.py") 685), (.int (302) 0), (.int (1) 0), (.int (0) 0), (.int (0) 0), (.int (3) 0), (.ref 367), (.bool true), (.int (181) 0), (.ref 368), .none, (.ref 369), (.ref 370), (.ref 371), (.int (689) 0), (.int (302) 0), (.str (S "/claim/cut.py") 690)]), List.toArray []⟩),
  (373, ⟨(.type "function"), none, .func (fnOf (S "next_token") (S "next_token") (fArgs (stAt 42)) (fBody (stAt 42)) (fScope (stAt 42)) .none .none .none (.str (S "paperhold.lexer") 579) none (.ref 372) .none), List.toArray []⟩),
  (379, ⟨(.type "code"), none, .fields (List.toArray [(.str (S "tokens_of") 692), (.str (S "tokens_of") 693), (.str (S "/claim/cut.py") 694), (.int (311) 0), (.int (1) 0), (.int (0) 0), (.int (0) 0), (.int (3) 0), (.ref 374), (.bool true), (.int (181) 0), (.ref 375), .none, (.ref 376), (.ref 377), (.ref 378), (.int (698) 0), (.int (311) 0), (.str (S "/claim/cut.py") 699)]), List.toArray []⟩),
  (380, ⟨(.type "function"), none, .func (fnOf (S "tokens_of") (S "tokens_of") (fArgs (stAt 43)) (fBody (stAt 43)) (fScope (stAt 43)) .none .none .none (.str (S "paperhold.lexer") 579) none (.ref 379) .none), List.toArray []⟩),
  (381, ⟨(.type "list"), none, .seq (List.toArray [(.bytes #[49, 50] 703), (.bytes #[45, 51, 46, 53] 704), (.bytes #[47, 78, 97, 109, 101] 705), (.bytes #[47, 65, 35, 52, 50] 706), (.bytes #[47] 707), (.bytes #[40, 97, 40, 98, 41, 92, 41, 41] 708), (.bytes #[40, 92, 49, 48, 49, 92, 10, 41] 709), (.bytes #[60, 52, 97, 62] 710), (.bytes #[60, 52, 32, 49, 10, 62] 711), (.bytes #[60, 60] 712), (.bytes #[62, 62] 713), (.bytes #[91] 714), (.bytes #[93] 715), (.bytes #[123] 716), (.bytes #[125] 717), (.bytes #[116, 114, 117, 101] 718), (.bytes #[111, 98, 106] 719), (.bytes #[82] 720), (.bytes #[37, 120, 10] 721), (.bytes #[37, 41, 32, 60, 13] 722), (.bytes #[32] 723), (.bytes #[120, 233] 724), (.bytes #[43, 46, 53] 725), (.bytes #[52, 46] 726)]) 0, List.toArray []⟩),
  (387, ⟨(.type "code"), none, .fields (List.toArray [(.str (S "_law_whites") 728), (.str (S "_law_whites") 729), (.str (S "/claim/cut.py") 730), (.int (320) 0), (.int (0) 0), (.int (0) 0), (.int (0) 0), (.int (3) 0), (.ref 382), (.bool true), (.int (181) 0), (.ref 383), .none, (.ref 384), (.ref 385), (.ref 386), (.int (731) 0), (.int (320) 0), (.str (S "/claim/cut.py") 732)]), List.toArray []⟩),
  (388, ⟨(.type "function"), none, .func (fnOf (S "_law_whites") (S "_law_whites") (fArgs (stAt 46)) (fBody (stAt 46)) (fScope (stAt 46)) .none .none .none (.str (S "law_og0183_01") 701) none (.ref 387) .none), List.toArray []⟩),
  (394, ⟨(.type "code"), none, .fields (List.toArray [(.str (S "_law_draw") 734), (.str (S "_law_draw") 735), (.str (S "/claim/cut.py") 736), (.int (322) 0), (.int (2) 0), (.int (0) 0), (.int (0) 0), (.int (3) 0), (.ref 389), (.bool true), (.int (181) 0), (.ref 390), .none, (.ref 391), (.ref 392), (.ref 393), (.int (744) 0), (.int (322) 0), (.str (S "/claim/cut.py") 745)]), List.toArray []⟩),
  (395, ⟨(.type "function"), none, .func (fnOf (S "_law_draw") (S "_law_draw") (fArgs (stAt 47)) (fBody (stAt 47)) (fScope (stAt 47)) .none .none .none (.str (S "law_og0183_01") 701) none (.ref 394) .none), List.toArray []⟩),
  (399, ⟨(.type "code"), none, .fields (List.toArray [(.str (S "_law_part") 747), (.str (S "_law_part") 748), (.str (S "/claim/cut.py") 749), (.int (337) 0), (.int (1) 0), (.int (0) 0), (.int (0) 0), (.int (3) 0), (.ref 396), (.bool true), (.int (181) 0), (.ref 397), .none, .none, .none, (.ref 398), (.int (750) 0), (.int (337) 0), (.str (S "/claim/cut.py") 751)]), List.toArray []⟩),
  (400, ⟨(.type "function"), none, .func (fnOf (S "_law_part") (S "_law_part") (fArgs (stAt 48)) (fBody (stAt 48)) (fScope (stAt 48)) .none .none .none (.str (S "law_og0183_01") 701) none (.ref 399) .none), List.toArray []⟩),
  (406, ⟨(.type "code"), none, .fields (List.toArray [(.str (S "_law_told") 753), (.str (S "_law_told") 754), (.str (S "/claim/cut.py") 755), (.int (339) 0), (.int (2) 0), (.int (0) 0), (.int (0) 0), (.int (3) 0), (.ref 401), (.bool true), (.int (181) 0), (.ref 402), .none, (.ref 403), (.ref 404), (.ref 405), (.int (762) 0), (.int (339) 0), (.str (S "/claim/cut.py") 763)]), List.toArray []⟩),
  (407, ⟨(.type "function"), none, .func (fnOf (S "_law_told") (S "_law_told") (fArgs (stAt 49)) (fBody (stAt 49)) (fScope (stAt 49)) .none .none .none (.str (S "law_og0183_01") 701) none (.ref 406) .none), List.toArray []⟩),
  (411, ⟨(.type "code"), none, .fields (List.toArray [(.str (S "law") 765), (.str (S "law") 766), (.str (S "/claim/cut.py") 767), (.int (344) 0), (.int (1) 0), (.int (0) 0), (.int (0) 0), (.int (3) 0), (.ref 408), (.bool true), (.int (181) 0), (.ref 409), .none, .none, .none, (.ref 410), (.int (768) 0), (.int (344) 0), (.str (S "/claim/cut.py") 769)]), List.toArray []⟩),
  (412, ⟨(.type "function"), none, .func (fnOf (S "law") (S "law") (fArgs (stAt 50)) (fBody (stAt 50)) (fScope (stAt 50)) .none .none .none (.str (S "law_og0183_01") 701) none (.ref 411) .none), List.toArray []⟩)]
noncomputable def KA : List Addr := [3, 62, 63, 69, 70, 76, 77, 92, 98, 99, 105, 106, 107, 113, 114, 120, 121, 127, 128, 134, 135, 141, 142, 148, 149, 155, 156, 186, 187, 204, 205, 267, 268, 284, 285, 302, 303, 304, 310, 311, 317, 318, 319, 325, 326, 332, 333, 339, 340, 346, 347, 351, 352, 358, 359, 365, 366, 372, 373, 379, 380, 381, 387, 388, 394, 395, 399, 400, 406, 407, 411, 412]
theorem ka_of (P : Params) : KA = (KK P).map (·.1) := rfl
noncomputable abbrev VQ : Program := view PySem.Challenge.pw_og0183_01 [50]
end Mine

open PySem PySem.W PyProof.Rows PySem.Calls
set_option Elab.async false
set_option maxRecDepth 100000
set_option maxHeartbeats 8000000
namespace Mine
noncomputable def LOOSE : List Str := ["_wall", "PaperError", "SyntaxFault", "WHITE", "DELIMITERS", "LINE_FEED", "RETURN", "COMMENT", "MOST_FIGURES_cursor", "is_white", "is_regular", "is_figure", "Cursor", "MOST_FIGURES_decimals", "PLUS", "MINUS", "POINT", "ZERO", "Decimal", "sign_text", "read_decimal", "PAREN", "CLOSE_PAREN", "LESS", "GREATER", "SLASH", "BACKSLASH", "HASH", "SIGNS", "hex_worth", "plain_escape", "name_text", "octal", "escaped_codes", "literal", "hex_string", "run_token", "delimited_token", "next_token", "tokens_of", "_law_pieces", "_law_whites", "_law_draw", "_law_part", "_law_told"].map S
noncomputable abbrev PV : Program := view PySem.Challenge.pw_og0183_01 [50]

theorem szs (w : World) : ((boot_heap w.params).isNs mainGlobals && (Array.mk ([] : List GenState)).size == 0, (boot_heap w.params).objs.size, (boot_heap w.params).nsMap mainGlobals "__annotations__") = (true, 11, some (.ref 6)) := by kernel_rfl

/-- a check that stands beside what is looked at -/
theorem seen_of_check {α β : Type} {x : Option α} {f : α → Option α} {c : α → Bool} {y : α → β} {b : β} (pass : ∀ a, c a = true → f a = some a) (h : x.map (fun a => (c a, y a)) = some (true, b)) : (x.bind f).map y = some b := by
  cases x with
  | none => cases h
  | some a =>
    have h' : (c a, y a) = (true, b) := Option.some.inj h
    have hc : c a = true := congrArg Prod.fst h'
    have hy : y a = b := congrArg Prod.snd h'
    show (f a).map y = some b
    rw [pass a hc, Option.map_some, hy]
theorem topFrom_at {p : Program} {w : World} {N m : Nat} {ann : Option Value} {S : Shared} (c : (S.heap.isNs mainGlobals && S.gens.size == 0) = true) (cm : S.heap.objs.size = m) (ca : S.heap.nsMap mainGlobals "__annotations__" = ann) {β : Type} {y : Shared → β} {b : β}
    (h : (topRun treeTable p w m ann N S (topStub p)).map (fun s => ((staticsOk (importedModules p.main.body) S.heap s.heap && namesBound p s.heap && gensDone s && laidKept S.heap s.heap), y s)) = some (true, b)) :
    (topFrom treeTable p w N S).map y = some b := by
  subst cm ca
  unfold topFrom
  simp only [c]
  exact seen_of_check (fun s e => by simp only [e]) h
/-- the head's left side from one check; nothing of the text in it -/
theorem left_of {p q : Program} {loose : List Str} {α : Type} {Yf : Shared → α} {Ya : World → α} {N m : Nat} {ann : Option Value} {H : Params → Heap} {gs : Array GenState} {dr : Drawn} {k : Nat}
    (opens : ∀ w : World, (fencedOpening treeTable p w N).map (fun s => (s.heap, s.gens, s.drawn, s.toks)) = some (H w.params, gs, dr, k))
    (size : ∀ w : World, ((H w.params).isNs mainGlobals && gs.size == 0, (H w.params).objs.size, (H w.params).nsMap mainGlobals "__annotations__") = (true, m, ann))
    (chk : ∀ (w : World) (os : OsState), (topRun treeTable p w m ann N ⟨H w.params, gs, dr, k, os⟩ (topStub p)).map (fun s =>
      ((staticsOk (importedModules p.main.body) (H w.params) s.heap && namesBound p s.heap && gensDone s && laidKept (H w.params) s.heap),
        openSeen q loose (importedModules p.main.body) (fun _ => true) true s, Yf s)) = some (true, openGood q loose, Ya w)) :
    LeftO p q loose (fun _ => true) Yf Ya N := by
  intro w
  have hw := opens w
  unfold openEnds
  cases hf : fencedOpening treeTable p w N with
  | none => rw [hf] at hw; cases hw
  | some S =>
    rw [hf, Option.map_some] at hw
    have ho := Option.some.inj hw
    have e1 : S.heap = H w.params := congrArg (·.1) ho
    have e2 : S.gens = gs := congrArg (·.2.1) ho
    have e3 : S.drawn = dr := congrArg (·.2.2.1) ho
    have e4 : S.toks = k := congrArg (·.2.2.2) ho
    have hS : S = ⟨H w.params, gs, dr, k, S.os⟩ := by rw [← e1, ← e2, ← e3, ← e4]
    have hz := size w
    rw [Option.bind_some, hS]
    exact topFrom_at (congrArg (·.1) hz) (congrArg (·.2.1) hz) (congrArg (·.2.2) hz) (chk w S.os)
/-- one check, the library's words as letters -/
def Chk (tr : (String → Option Builtin) → Program → World → Nat → Option Value → Nat → Shared → Thread → Option Shared) (tt : String → Option Builtin) (im : List Stmt → List Str)
    (sn : type_of% openSeen) (w : World) (os : OsState) : Prop :=
    (tr tt PySem.Challenge.pw_og0183_01 w 11 (some (.ref 6)) 5400 ⟨boot_heap w.params, Array.mk [], boot_drawn, boot_toks, os⟩ (topStub PySem.Challenge.pw_og0183_01)).map (fun s =>
      ((staticsOk (im PySem.Challenge.pw_og0183_01.main.body) (boot_heap w.params) s.heap && namesBound PySem.Challenge.pw_og0183_01 s.heap && gensDone s && laidKept (boot_heap w.params) s.heap),
        sn PV LOOSE (im PySem.Challenge.pw_og0183_01.main.body) (fun _ => true) true s, KA.map s.heap.get?)) =
      some (true, openGood PV LOOSE, (KK w.params).map fun p => some p.2)
theorem chkQ (w : World) (os : OsState) : Chk PySem.W.Fast.tw14082659384304107361 PySem.W.Fast.tw14364793385576792824 PySem.W.Fast.tw5923862056798008813 PySem.W.Fast.tw4187177175401517315 w os := by
  unfold Chk
  kernel_rfl
theorem chk (w : World) (os : OsState) : Chk topRun treeTable importedModules openSeen w os := by
  have h := chkQ w os
  rw [← PySem.W.Fast.te14082659384304107361, ← PySem.W.Fast.te14364793385576792824, ← PySem.W.Fast.te4187177175401517315, ← PySem.W.Fast.te5923862056798008813] at h
  exact h
theorem opens (w : World) : (fencedOpening treeTable PySem.Challenge.pw_og0183_01 w 5400).map (fun s => (s.heap, s.gens, s.drawn, s.toks)) = some (boot_heap w.params, Array.mk [], boot_drawn, boot_toks) :=
  boot_open (by kernel_rfl) (by decide) (fun s => by kernel_rfl) w
theorem left : LeftO PySem.Challenge.pw_og0183_01 PV LOOSE (fun _ => true) (fun s => KA.map s.heap.get?) (fun w => (KK w.params).map fun p => some p.2) 5400 :=
  left_of opens szs chk
end Mine

open PySem PySem.W PyProof.Rows PySem.Calls
set_option Elab.async false
set_option maxRecDepth 100000
set_option maxHeartbeats 8000000
namespace Mine
def inK (w : World) (h : Heap) : Prop := (KK w.params).In h
/-- the looks at the law, each by itself -/
theorem said_ok : PySem.Challenge.rw_og0183_01.wellSaid = true := by
  unfold OpenLaw.wellSaid OpenRow.wellSaid OpenRow.partSaid looksOpen
  simp only [PySem.W.Fast.te8377067652309620493, PySem.W.Fast.te8326940854005059898, PySem.W.Fast.te17119622794617984870, PySem.W.Fast.named_eq, PySem.W.Fast.te5923862056798008813, PySem.W.Fast.te13343964577679436407]
  repeat' (with_reducible apply look_both)
  all_goals decide +kernel
theorem hd (walk : ∀ (w : World) (s₀ s₁ : Shared) (mg mb : Str → Option Value), Ground PV LOOSE [] (fun _ _ => True) w s₀ mg mb s₁.heap → inK w s₁.heap → ∀ (a : Addr), mg (S "law") = some (.ref a) → s₁.gens = #[] →
    ∀ (args : List WData) (vals : List Value) (as : List Addr), PySem.Challenge.rw_og0183_01.row.claim.pre args = true → WData.layableAll args = true → ReadsAllW [] (classAt s₀.heap) s₁.heap vals args as → WellAll w.params s₁.heap vals args → (∀ a ∈ as, (a == sysModules) = false) →
      wpAny (model PySem.Challenge.pw_og0183_01 w) callerA (call (.ref a) vals) (fun v s' => GoodWG PySem.Challenge.rw_og0183_01.row.claim (classAt s₀.heap) (ExcName.means s₀.heap) args s₁ (.ok (.ret v)) s') (fun _ _ => False) s₁) :
    PySem.Challenge.rw_og0183_01.Holds := by
  w_on
  refine holds_law said_ok fun said => ?_

  refine PySem.W.holds_open (q := PV) (loose := LOOSE) (Xt := fun _ => true) (XP := fun _ _ => True) (YP := inK) left
    (fun w s x => Frag.in_of (ka_of _) x) (fun w h h' x k => Frag.In.keeps x k) (fun _ _ => trivial) (fun _ _ _ _ _ => trivial) rfl rfl rfl (fun s _ => recFacts_nil rfl) rfl said (by decide +kernel)
    ⟨rfl, rfl, rfl, rfl, rfl, by decide +kernel⟩ ?hw ?hc
  case hw => exact ⟨[.list []], by decide +kernel, by decide +kernel⟩
  case hc =>
    intro w s₀ s₁ mg mb G Y a o pm cd doc dV kV ho hd hcd hD hmg hg args vals as hpre hlay hrd hwl hlo
    exact wpAny_mono (walk w s₀ s₁ mg mb G Y a hmg hg args vals as hpre hlay hrd hwl hlo) (fun _ _ h => h) (fun _ _ h => h.elim)
end Mine

open PySem PySem.W PyProof.Rows PySem.Calls
set_option Elab.async false
set_option maxRecDepth 100000
set_option maxHeartbeats 1000000
namespace Mine
/-- the built-ins that the text names -/
inductive Bi where
  | len | chr | min | isinstance | int | range | bytes | abs
noncomputable def Bi.val : Bi → Value
  | .len => .builtin "len"
  | .chr => .builtin "chr"
  | .min => .builtin "min"
  | .isinstance => .builtin "isinstance"
  | .int => .type "int"
  | .range => .type "range"
  | .bytes => .type "bytes"
  | .abs => .builtin "abs"
/-- abstract values: an object is known by its number; fn, seq: objects of the text's top -/
inductive V where
  | none
  | bool (b : Bool)
  | int (i : Int)
  | str (s : Str)
  | bytes (b : List UInt8)
  | ref (i : Nat)
  | fn (a : Addr)
  | bi (b : Bi)
  | seq (a : Addr)
  | scr (a : Addr)
/-- abstract objects -/
inductive O where
  | list (xs : List V)
  | tuple (xs : List V)
  | inst (C : Addr) (fs : List (Str × V))
  | cell (v : Option V)
abbrev Hp := List O
abbrev Th := List (Addr × Option Addr)
noncomputable def A1 (p : Addr × Option Addr) : List Addr := p.1 :: p.2.toList
noncomputable def AS (th : Th) : List Addr := th.flatMap A1

noncomputable def VR (th : Th) : V → Value → Prop
  | .none, c => c = .none
  | .bool b, c => c = .bool b
  | .int i, c => ∃ t, c = .int i t
  | .str s, c => ∃ t, c = .str s t
  | .bytes b, c => ∃ t, c = .bytes b.toArray t
  | .ref i, c => ∃ a d, th[i]? = some (a, d) ∧ c = .ref a
  | .fn a, c => c = .ref a
  | .bi b, c => c = b.val
  | .seq a, c => c = .ref a
  | .scr a, c => c = .ref a
noncomputable def VRs (th : Th) : List V → List Value → Prop
  | [], [] => True
  | v :: vs, c :: cs => VR th v c ∧ VRs th vs cs
  | _, _ => False
noncomputable def FRs (P : Params) (th : Th) : List (Str × V) → List DictEntry → Prop
  | [], [] => True
  | f :: fs, e :: es => (∃ t c, e = ⟨PyData.keyHash P f.1, .str f.1 t, c⟩ ∧ VR th f.2 c) ∧ FRs P th fs es
  | _, _ => False
noncomputable abbrev tupOf (its : Array Value) (n : Nat) : Obj := { cls := .type "tuple", data := .seq its n }
noncomputable abbrev cellOb (v : Option Value) : Obj := { cls := .type "cell", data := .cell v }
noncomputable def VRo (th : Th) : Option V → Option Value → Prop
  | none, none => True
  | some v, some c => VR th v c
  | _, _ => False
noncomputable def OAt (P : Params) (th : Th) (h : Heap) (p : Addr × Option Addr) : O → Prop
  | .list xs => p.2 = none ∧ ∃ (vs : List Value) (k : Nat), h.get? p.1 = some (listOf vs.toArray k) ∧ VRs th xs vs
  | .tuple xs => p.2 = none ∧ ∃ vs : List Value, IsTup h p.1 vs.toArray ∧ VRs th xs vs
  | .inst C fs => ∃ dx es k, p.2 = some dx ∧ h.get? p.1 = some (instObj C dx) ∧ h.get? dx = some (dictOf es k) ∧ FRs P th fs es
  | .cell v => p.2 = none ∧ ∃ c, h.IsCell p.1 c ∧ VRo th v c
structure HR (P : Params) (h0 : Heap) (th : Th) (H : Hp) (h : Heap) : Prop where
  len : th.length = H.length
  at_ : ∀ (i : Nat) (p : Addr × Option Addr) (o : O), th[i]? = some p → H[i]? = some o → OAt P th h p o
  nd : (AS th).Nodup
  off : ∀ a ∈ AS th, h0.get? a = none
  keep : ∀ b o, h0.get? b = some o → h.get? b = some o
/-- from one heap to the next: the abstract objects may turn, and the frame's own dict L; all else stays; new ones are new -/
structure Go (L : Addr) (th : Th) (h : Heap) (th' : Th) (h' : Heap) : Prop where
  pre : th <+: th'
  ext : ∀ b o, b ∉ AS th → b ≠ L → h.get? b = some o → h'.get? b = some o
  new : ∀ a ∈ AS th', a ∈ AS th ∨ h.get? a = none
  alive : ∀ b o, h.get? b = some o → ∃ o', h'.get? b = some o'

theorem VR.mono {th th' : Th} (p : th <+: th') : ∀ {v : V} {c : Value}, VR th v c → VR th' v c
  | .none, _, h => h
  | .bool _, _, h => h
  | .int _, _, h => h
  | .str _, _, h => h
  | .bytes _, _, h => h
  | .ref i, _, ⟨a, d, h, e⟩ => ⟨a, d, by
      obtain ⟨t, rfl⟩ := p
      have hi := (List.getElem?_eq_some_iff.mp h).1
      rw [List.getElem?_append_left hi]; exact h, e⟩
  | .fn _, _, h => h
  | .bi _, _, h => h
  | .seq _, _, h => h
  | .scr _, _, h => h
theorem VRs.mono {th th' : Th} (p : th <+: th') : ∀ {vs : List V} {cs : List Value}, VRs th vs cs → VRs th' vs cs
  | [], [], _ => trivial
  | _ :: _, _ :: _, h => ⟨VR.mono p h.1, VRs.mono p h.2⟩
  | [], _ :: _, h => h
  | _ :: _, [], h => h
theorem VRo.mono {th th' : Th} (p : th <+: th') : ∀ {v : Option V} {c : Option Value}, VRo th v c → VRo th' v c
  | none, none, _ => trivial
  | some _, some _, h => VR.mono p h
  | none, some _, h => h
  | some _, none, h => h
theorem VRs.length {th : Th} : ∀ {vs : List V} {cs : List Value}, VRs th vs cs → cs.length = vs.length
  | [], [], _ => rfl
  | _ :: _, _ :: _, h => by simp [VRs.length h.2]
  | [], _ :: _, h => h.elim
  | _ :: _, [], h => h.elim
theorem VRs.get {th : Th} : ∀ {vs : List V} {cs : List Value} {i : Nat} {v : V}, VRs th vs cs → vs[i]? = some v → ∃ c, cs[i]? = some c ∧ VR th v c
  | [], [], _, _, _, e => by simp at e
  | _ :: _, c :: _, 0, _, h, e => by simp at e; subst e; exact ⟨c, by simp, h.1⟩
  | _ :: _, _ :: _, i + 1, _, h, e => by
      obtain ⟨c, h1, h2⟩ := VRs.get h.2 (by simpa using e)
      exact ⟨c, by simpa using h1, h2⟩
  | [], _ :: _, _, _, h, _ => h.elim
  | _ :: _, [], _, _, h, _ => h.elim
theorem VRs.append {th : Th} : ∀ {vs ws : List V} {cs ds : List Value}, VRs th vs cs → VRs th ws ds → VRs th (vs ++ ws) (cs ++ ds)
  | [], _, [], _, _, k => k
  | _ :: _, _, _ :: _, _, h, k => ⟨h.1, VRs.append h.2 k⟩
  | [], _, _ :: _, _, h, _ => h.elim
  | _ :: _, _, [], _, h, _ => h.elim
theorem VRs.drop {th : Th} : ∀ (n : Nat) {vs : List V} {cs : List Value}, VRs th vs cs → VRs th (vs.drop n) (cs.drop n)
  | 0, _, _, h => h
  | _ + 1, [], [], _ => trivial
  | n + 1, _ :: _, _ :: _, h => VRs.drop n h.2
  | _ + 1, [], _ :: _, h => h.elim
  | _ + 1, _ :: _, [], h => h.elim
theorem VRs.take {th : Th} : ∀ (n : Nat) {vs : List V} {cs : List Value}, VRs th vs cs → VRs th (vs.take n) (cs.take n)
  | 0, _, _, _ => trivial
  | _ + 1, [], [], _ => trivial
  | n + 1, _ :: _, _ :: _, h => ⟨h.1, VRs.take n h.2⟩
  | _ + 1, [], _ :: _, h => h.elim
  | _ + 1, _ :: _, [], h => h.elim
theorem vrsc {th : Th} {x : V} {xs : List V} {cs : List Value} (h : VRs th (x :: xs) cs) : ∃ c ds, cs = c :: ds ∧ VR th x c ∧ VRs th xs ds := by
  cases cs with
  | nil => exact h.elim
  | cons c ds => exact ⟨c, ds, rfl, h.1, h.2⟩
theorem vrs0 {th : Th} {cs : List Value} (h : VRs th [] cs) : cs = [] := by
  cases cs with
  | nil => rfl
  | cons c ds => exact h.elim
theorem vrs1 {th : Th} {x : V} {cs : List Value} (h : VRs th [x] cs) : ∃ c, cs = [c] ∧ VR th x c := by
  obtain ⟨c, ds, rfl, h1, h⟩ := vrsc h
  obtain rfl := vrs0 h
  exact ⟨c, rfl, h1⟩
theorem vrs2 {th : Th} {x y : V} {cs : List Value} (h : VRs th [x, y] cs) : ∃ c d, cs = [c, d] ∧ VR th x c ∧ VR th y d := by
  obtain ⟨c, ds, rfl, h1, h⟩ := vrsc h
  obtain ⟨d, rfl, h2⟩ := vrs1 h
  exact ⟨c, d, rfl, h1, h2⟩
theorem vrs3 {th : Th} {x y z : V} {cs : List Value} (h : VRs th [x, y, z] cs) : ∃ c d f, cs = [c, d, f] ∧ VR th x c ∧ VR th y d ∧ VR th z f := by
  obtain ⟨c, ds, rfl, h1, h⟩ := vrsc h
  obtain ⟨d, f, rfl, h2⟩ := vrs2 h
  exact ⟨c, d, f, rfl, h1, h2⟩
theorem vrs4 {th : Th} {x y z u : V} {cs : List Value} (h : VRs th [x, y, z, u] cs) : ∃ c d f g, cs = [c, d, f, g] ∧ VR th x c ∧ VR th y d ∧ VR th z f ∧ VR th u g := by
  obtain ⟨c, ds, rfl, h1, h⟩ := vrsc h
  obtain ⟨d, f, g, rfl, h2⟩ := vrs3 h
  exact ⟨c, d, f, g, rfl, h1, h2⟩
theorem VRs.set {th : Th} {v : V} {c : Value} (hv : VR th v c) : ∀ (n : Nat) {vs : List V} {cs : List Value}, VRs th vs cs → VRs th (vs.set n v) (cs.set n c)
  | _, [], [], _ => trivial
  | 0, _ :: _, _ :: _, h => ⟨hv, h.2⟩
  | n + 1, _ :: _, _ :: _, h => ⟨h.1, VRs.set hv n h.2⟩
  | _, [], _ :: _, h => h.elim
  | _, _ :: _, [], h => h.elim
theorem FRs.mono {P : Params} {th th' : Th} (p : th <+: th') : ∀ {fs : List (Str × V)} {es : List DictEntry}, FRs P th fs es → FRs P th' fs es
  | [], [], _ => trivial
  | _ :: _, _ :: _, h => ⟨let ⟨t, c, e, hv⟩ := h.1; ⟨t, c, e, VR.mono p hv⟩, FRs.mono p h.2⟩
  | [], _ :: _, h => h
  | _ :: _, [], h => h
theorem mem_AS {th : Th} {i : Nat} {a : Addr} {d : Option Addr} (h : th[i]? = some (a, d)) : a ∈ AS th :=
  List.mem_flatMap.mpr ⟨_, List.mem_of_getElem? h, .head _⟩
theorem mem_AS2 {th : Th} {i : Nat} {a dx : Addr} (h : th[i]? = some (a, some dx)) : dx ∈ AS th :=
  List.mem_flatMap.mpr ⟨_, List.mem_of_getElem? h, .tail _ (.head _)⟩
theorem AS_append (a b : Th) : AS (a ++ b) = AS a ++ AS b := by simp [AS]

/-- an object stays told where its own addresses stay -/
theorem OAt.move {P : Params} {th th' : Th} {h h' : Heap} (p : th <+: th') {q : Addr × Option Addr} (k : ∀ a ∈ A1 q, ∀ o, h.get? a = some o → h'.get? a = some o) : ∀ {o : O}, OAt P th h q o → OAt P th' h' q o
  | .list _, ⟨e, vs, n, g, r⟩ => ⟨e, vs, n, k _ (.head _) _ g, r.mono p⟩
  | .tuple _, ⟨e, vs, ⟨o, g, q⟩, r⟩ => ⟨e, vs, ⟨o, k _ (.head _) _ g, q⟩, r.mono p⟩
  | .inst _ _, ⟨dx, es, n, e, g, g2, r⟩ => ⟨dx, es, n, e, k _ (.head _) _ g, k _ (by unfold A1; rw [e]; exact .tail _ (.head _)) _ g2, r.mono p⟩
  | .cell _, ⟨e, c, ⟨o, g, q⟩, r⟩ => ⟨e, c, ⟨o, k _ (.head _) _ g, q⟩, VRo.mono p r⟩
theorem OAt.live {P : Params} {th : Th} {h : Heap} {q : Addr × Option Addr} : ∀ {o : O}, OAt P th h q o → ∀ a ∈ A1 q, ∃ ob, h.get? a = some ob
  | .list _, ⟨e, _, _, g, _⟩, a, ha => by unfold A1 at ha; rw [e] at ha; simp at ha; subst ha; exact ⟨_, g⟩
  | .tuple _, ⟨e, _, ⟨_, g, _⟩, _⟩, a, ha => by unfold A1 at ha; rw [e] at ha; simp at ha; subst ha; exact ⟨_, g⟩
  | .inst _ _, ⟨dx, _, _, e, g, g2, _⟩, a, ha => by
      unfold A1 at ha; rw [e] at ha; simp at ha
      rcases ha with rfl | rfl
      · exact ⟨_, g⟩
      · exact ⟨_, g2⟩
  | .cell _, ⟨e, _, ⟨_, g, _⟩, _⟩, a, ha => by unfold A1 at ha; rw [e] at ha; simp at ha; subst ha; exact ⟨_, g⟩
section
variable {P : Params} {h0 : Heap} {th th' th'' : Th} {H H' : Hp} {h h' h'' : Heap}
theorem HR.obj (r : HR P h0 th H h) {i : Nat} {o : O} (e : H[i]? = some o) : ∃ p, th[i]? = some p ∧ OAt P th h p o := by
  have hi := (List.getElem?_eq_some_iff.mp e).1
  have ht : i < th.length := by rw [r.len]; exact hi
  exact ⟨_, List.getElem?_eq_getElem ht, r.at_ i _ o (List.getElem?_eq_getElem ht) e⟩
theorem HR.live (r : HR P h0 th H h) : ∀ a ∈ AS th, ∃ ob, h.get? a = some ob := by
  intro a ha
  obtain ⟨p, hp, hq⟩ := List.mem_flatMap.mp ha
  obtain ⟨i, hi⟩ := List.getElem?_of_mem hp
  have hlt := (List.getElem?_eq_some_iff.mp hi).1
  have hH : i < H.length := by rw [← r.len]; exact hlt
  exact (r.at_ i p _ hi (List.getElem?_eq_getElem hH)).live a hq
theorem HR.lt (r : HR P h0 th H h) {a : Addr} (ha : a ∈ AS th) : a < h.objs.size := let ⟨_, g⟩ := r.live a ha; Heap.lt_size g
theorem Go.refl (L : Addr) (th : Th) (h : Heap) : Go L th h th h := ⟨List.prefix_refl _, fun _ _ _ _ e => e, fun _ h => .inl h, fun _ o e => ⟨o, e⟩⟩
theorem Go.trans {L : Addr} (a : Go L th h th' h') (b : Go L th' h' th'' h'') : Go L th h th'' h'' where
  pre := a.pre.trans b.pre
  ext := fun x o hx hL e => by
    refine b.ext x o (fun q => ?_) hL (a.ext x o hx hL e)
    rcases a.new x q with q | q
    · exact hx q
    · rw [q] at e; cases e
  new := fun x hx => by
    rcases b.new x hx with q | q
    · exact a.new x q
    · refine .inr ?_
      cases e : h.get? x with
      | none => rfl
      | some o => obtain ⟨o', e'⟩ := a.alive x o e; rw [q] at e'; cases e'
  alive := fun x o e => let ⟨o', e'⟩ := a.alive x o e; b.alive x o' e'
/-- a step that touches no abstract object: all stays -/
theorem HR.stays {L : Addr} (r : HR P h0 th H h) (off : L ∉ AS th) (off0 : h0.get? L = none) (k : ∀ b o, b ≠ L → h.get? b = some o → h'.get? b = some o) : HR P h0 th H h' :=
  ⟨r.len, fun i p o hp ho => (r.at_ i p o hp ho).move (List.prefix_refl _) fun a ha ob e => k a ob (fun q => off (q ▸ List.mem_flatMap.mpr ⟨p, List.mem_of_getElem? hp, ha⟩)) e, r.nd, r.off,
    fun b o e => k b o (fun q => by rw [q, off0] at e; cases e) (r.keep b o e)⟩
theorem Go.stays {L : Addr} (k : ∀ b o, b ≠ L → h.get? b = some o → h'.get? b = some o) (l : ∃ o, h'.get? L = some o) : Go L th h th h' :=
  ⟨List.prefix_refl _, fun b o _ n e => k b o n e, fun _ h => .inl h, fun b o e => by
    by_cases q : b = L
    · subst q; exact l
    · exact ⟨o, k b o q e⟩⟩
/-- addresses of two objects are apart -/
theorem AS_apart : ∀ {th : Th} {i j : Nat} {p q : Addr × Option Addr} {a : Addr}, (AS th).Nodup → th[i]? = some p → th[j]? = some q → i ≠ j → a ∈ A1 p → a ∈ A1 q → False
  | [], _, _, _, _, _, _, h, _, _, _, _ => by simp at h
  | x :: th, 0, 0, _, _, _, _, _, _, n, _, _ => n rfl
  | x :: th, 0, j + 1, p, q, a, nd, hp, hq, _, h1, h2 => by
      simp at hp; subst hp
      have e : AS (x :: th) = A1 x ++ AS th := by simp [AS]
      rw [e, List.nodup_append] at nd
      exact nd.2.2 a h1 a (List.mem_flatMap.mpr ⟨q, List.mem_of_getElem? (by simpa using hq), h2⟩) rfl
  | x :: th, i + 1, 0, p, q, a, nd, hp, hq, _, h1, h2 => by
      simp at hq; subst hq
      have e : AS (x :: th) = A1 x ++ AS th := by simp [AS]
      rw [e, List.nodup_append] at nd
      exact nd.2.2 a h2 a (List.mem_flatMap.mpr ⟨p, List.mem_of_getElem? (by simpa using hp), h1⟩) rfl
  | x :: th, i + 1, j + 1, p, q, a, nd, hp, hq, n, h1, h2 => by
      have e : AS (x :: th) = A1 x ++ AS th := by simp [AS]
      rw [e, List.nodup_append] at nd
      exact AS_apart nd.2.1 (by simpa using hp) (by simpa using hq) (fun z => n (by omega)) h1 h2
/-- one object turned, by one of its addresses -/
theorem HR.turn {L : Addr} (r : HR P h0 th H h) (off : L ∉ AS th) {i : Nat} {p : Addr × Option Addr} {o' : O} {a : Addr} (hp : th[i]? = some p) (ha : a ∈ A1 p) (k : ∀ b o, b ≠ a → h.get? b = some o → h'.get? b = some o) (n : OAt P th h' p o') :
    HR P h0 th (H.set i o') h' ∧ Go L th h th h' := by
  have hm : a ∈ AS th := List.mem_flatMap.mpr ⟨p, List.mem_of_getElem? hp, ha⟩
  refine ⟨⟨by rw [List.length_set]; exact r.len, fun j q o hq ho => ?_, r.nd, r.off, fun b o e => k b o (fun q => ?_) (r.keep b o e)⟩, ⟨List.prefix_refl _, fun b o hb _ e => k b o (fun q => hb (q ▸ hm)) e, fun _ h => .inl h, fun b o e => ?_⟩⟩
  · by_cases hij : i = j
    · subst hij
      rw [hp] at hq; cases hq
      have hi := (List.getElem?_eq_some_iff.mp hp).1
      rw [List.getElem?_set_self (by rw [← r.len]; exact hi)] at ho
      cases ho; exact n
    · rw [List.getElem?_set_ne hij] at ho
      exact (r.at_ j q o hq ho).move (List.prefix_refl _) fun b hb ob e => k b ob (fun z => AS_apart r.nd hp hq hij ha (z ▸ hb)) e
  · have := r.off a hm; rw [← q, e] at this; cases this
  · by_cases q : b = a
    · subst q; exact n.live b ha
    · exact ⟨o, k b o q e⟩
/-- a new object -/
theorem HR.born {L : Addr} (r : HR P h0 th H h) (off : L ∉ AS th) (off0 : h0.get? L = none) {p : Addr × Option Addr} {o : O} (k : ∀ b o, b ≠ L → h.get? b = some o → h'.get? b = some o) (l : ∃ o, h'.get? L = some o) (fresh : ∀ a ∈ A1 p, h.get? a = none) (nd : (A1 p).Nodup)
    (n : OAt P (th ++ [p]) h' p o) : HR P h0 (th ++ [p]) (H ++ [o]) h' ∧ Go L th h (th ++ [p]) h' := by
  have eA : AS (th ++ [p]) = AS th ++ A1 p := by rw [AS_append]; simp [AS]
  refine ⟨⟨by simp [r.len], fun j q ob hq ho => ?_, ?_, ?_, fun b ob e => k b ob (fun q => by rw [q, off0] at e; cases e) (r.keep b ob e)⟩, ⟨List.prefix_append _ _, fun b ob _ hL e => k b ob hL e, ?_, fun b ob e => ?_⟩⟩
  · by_cases hj : j < th.length
    · rw [List.getElem?_append_left hj] at hq
      rw [List.getElem?_append_left (by rw [← r.len]; exact hj)] at ho
      exact (r.at_ j q ob hq ho).move (List.prefix_append _ _) fun b hb x e => k b x (fun z => off (z ▸ List.mem_flatMap.mpr ⟨q, List.mem_of_getElem? hq, hb⟩)) e
    · have hlen := (List.getElem?_eq_some_iff.mp hq).1
      have hj' : j = th.length := by simp at hlen; omega
      subst hj'
      rw [List.getElem?_append_right (Nat.le_refl _)] at hq
      rw [r.len, List.getElem?_append_right (Nat.le_refl _)] at ho
      simp at hq ho
      subst hq; subst ho
      exact n
  · rw [eA, List.nodup_append]
    exact ⟨r.nd, nd, fun a ha b hb e => by subst e; obtain ⟨ob, g⟩ := r.live a ha; rw [fresh _ hb] at g; cases g⟩
  · intro a ha
    rw [eA] at ha
    rcases List.mem_append.mp ha with ha | ha
    · exact r.off a ha
    · cases e : h0.get? a with
      | none => rfl
      | some ob => have := r.keep a ob e; rw [fresh _ ha] at this; cases this
  · intro a ha
    rw [eA] at ha
    rcases List.mem_append.mp ha with ha | ha
    · exact .inl ha
    · exact .inr (fresh _ ha)
  · by_cases q : b = L
    · subst q; exact l
    · exact ⟨ob, k b ob q e⟩
end
end Mine

open PySem PySem.W PyProof.Rows PySem.Calls
set_option Elab.async false
set_option maxRecDepth 100000
set_option maxHeartbeats 1000000
namespace Mine
abbrev Ls := Str → Option V
abbrev Ev := Ls → Hp → Option (V × Hp)
abbrev Tr := Ls → Hp → Option (Bool × Hp)
abbrev Es := Ls → Hp → Option (List V × Hp)
inductive Fl where
  | next | cont
  | ret (v : V)
abbrev Ex := Ls → Hp → Option (Fl × Ls × Hp)
abbrev Orc := Addr → List V → Hp → Option (V × Hp)
/-- the tuples of ints at the text's top -/
noncomputable def seqInts (a : Addr) : Option (List Int) := if a = 62 then some [0, 9, 10, 12, 13, 32] else if a = 63 then some [40, 41, 60, 62, 91, 93, 123, 125, 47, 37] else if a = 304 then some [91, 93, 123, 125] else none

-- expressions
noncomputable def eV (v : V) : Ev := fun _ hp => some (v, hp)
noncomputable def eLoc (x : Str) : Ev := fun ls hp => match ls x with | some v => some (v, hp) | none => none
noncomputable def eCell (i : Option Nat) : Ev := fun _ hp => match i with
  | some i => (match hp[i]? with | some (.cell (some v)) => some (v, hp) | _ => none)
  | none => none
noncomputable def eNo : Ev := fun _ _ => none
noncomputable def e1 (f : V → Hp → Option (V × Hp)) (a : Ev) : Ev := fun ls hp => match a ls hp with | some (v, h1) => f v h1 | none => none
noncomputable def e2 (f : V → V → Hp → Option (V × Hp)) (a b : Ev) : Ev := fun ls hp => match a ls hp with
  | some (v, h1) => (match b ls h1 with | some (u, h2) => f v u h2 | none => none)
  | none => none
noncomputable def eAll : List Ev → Es
  | [] => fun _ hp => some ([], hp)
  | e :: es => fun ls hp => match e ls hp with
    | some (v, h1) => (match eAll es ls h1 with | some (vs, h2) => some (v :: vs, h2) | none => none)
    | none => none
noncomputable def eS (f : List V → Hp → Option (V × Hp)) (es : List Ev) : Ev := fun ls hp => match eAll es ls hp with | some (vs, h1) => f vs h1 | none => none
noncomputable def e1S (f : V → List V → Hp → Option (V × Hp)) (a : Ev) (es : List Ev) : Ev := fun ls hp => match a ls hp with
  | some (v, h1) => (match eAll es ls h1 with | some (vs, h2) => f v vs h2 | none => none)
  | none => none
noncomputable def eIf (t : Tr) (a b : Ev) : Ev := fun ls hp => match t ls hp with
  | some (true, h1) => a ls h1
  | some (false, h1) => b ls h1
  | none => none
noncomputable def tOf (e : Ev) (f : V → Hp → Option Bool) : Tr := fun ls hp => match e ls hp with
  | some (v, h1) => (match f v h1 with | some b => some (b, h1) | none => none)
  | none => none
noncomputable def tNot (t : Tr) : Tr := fun ls hp => match t ls hp with | some (b, h1) => some (!b, h1) | none => none
noncomputable def tAnd : List Tr → Tr
  | [] => fun _ hp => some (true, hp)
  | t :: ts => fun ls hp => match t ls hp with
    | some (true, h1) => tAnd ts ls h1
    | some (false, h1) => some (false, h1)
    | none => none
noncomputable def tOr : List Tr → Tr
  | [] => fun _ hp => some (false, hp)
  | t :: ts => fun ls hp => match t ls hp with
    | some (false, h1) => tOr ts ls h1
    | some (true, h1) => some (true, h1)
    | none => none
/-- 'and' as a value: its parts are bools here -/
noncomputable def eAnd : List Ev → Ev
  | [] => eNo
  | [e] => e
  | e :: es => fun ls hp => match e ls hp with
    | some (.bool true, h1) => eAnd es ls h1
    | some (.bool false, h1) => some (.bool false, h1)
    | _ => none
noncomputable def tCmp2 (f : V → V → Hp → Option Bool) (a b : Ev) : Tr := fun ls hp => match a ls hp with
  | some (v, h1) => (match b ls h1 with
    | some (u, h2) => (match f v u h2 with | some r => some (r, h2) | none => none)
    | none => none)
  | none => none
noncomputable def tCmp3 (f g : V → V → Hp → Option Bool) (a b c : Ev) : Tr := fun ls hp => match a ls hp with
  | some (v, h1) => (match b ls h1 with
    | some (u, h2) => (match f v u h2 with
      | some true => (match c ls h2 with
        | some (x, h3) => (match g u x h3 with | some r => some (r, h3) | none => none)
        | none => none)
      | some false => some (false, h2)
      | none => none)
    | none => none)
  | none => none
noncomputable def eTr (t : Tr) : Ev := fun ls hp => match t ls hp with | some (b, h1) => some (.bool b, h1) | none => none

-- what the operations give
noncomputable def big : Int := 2 ^ 4000
noncomputable def addV : V → V → Hp → Option (V × Hp)
  | .int a, .int b, hp => some (.int (a + b), hp)
  | .bytes a, .bytes b, hp => if a.length + b.length ≤ 16777216 then some (.bytes (a ++ b), hp) else none
  | .ref i, .ref j, hp => match hp[i]?, hp[j]? with
    | some (.list xs), some (.list ys) => if xs.length + ys.length ≤ 1000000 then some (.ref hp.length, hp ++ [.list (xs ++ ys)]) else none
    | _, _ => none
  | _, _, _ => none
noncomputable def intV (f : Int → Int → Hp → Option (V × Hp)) : V → V → Hp → Option (V × Hp)
  | .int a, .int b, hp => f a b hp
  | _, _, _ => none
noncomputable def binV (op : Operator) (u v : V) (hp : Hp) : Option (V × Hp) := match op with
  | .Add => addV u v hp
  | .Sub => intV (fun a b hp => some (.int (a - b), hp)) u v hp
  | .Mult => intV (fun a b hp => if a.natAbs < 2 ^ 60 ∧ b.natAbs < 2 ^ 4000 then some (.int (a * b), hp) else none) u v hp
  | .FloorDiv => intV (fun a b hp => if b = 0 ∨ 1000000 ≤ b.natAbs then none else some (.int (a.fdiv b), hp)) u v hp
  | .Mod => intV (fun a b hp => if b = 0 then none else some (.int (a.fmod b), hp)) u v hp
  | .Pow => intV (fun a b hp => if 0 ≤ b ∧ b ≤ 20 ∧ a.natAbs < 2 ^ 100 then some (.int (a ^ b.toNat), hp) else none) u v hp
  | _ => none
noncomputable def negV : V → Hp → Option (V × Hp)
  | .int a, hp => some (.int (-a), hp)
  | _, _ => none
/-- the data that a value reads as, n deep -/
inductive RD (hp : Hp) : Nat → V → Dat → Prop where
  | int (n : Nat) (i : Int) : RD hp n (.int i) (.int i)
  | str (n : Nat) (s : Str) : RD hp n (.str s) (.str s)
  | bytes (n : Nat) (b : List UInt8) : RD hp n (.bytes b) (.bytes b.toArray)
  | tup (n i : Nat) (xs : List V) (ds : List Dat) : hp[i]? = some (.tuple xs) → xs.length = ds.length → (∀ (k : Nat) x d, xs[k]? = some x → ds[k]? = some d → RD hp n x d) → RD hp (n + 1) (.ref i) (.tuple ds)
  | lst (n i : Nat) (xs : List V) (ds : List Dat) : hp[i]? = some (.list xs) → xs.length = ds.length → (∀ (k : Nat) x d, xs[k]? = some x → ds[k]? = some d → RD hp n x d) → RD hp (n + 1) (.ref i) (.list ds)
def Same (hp : Hp) (v u : V) : Prop := ∃ d, RD hp 5 v d ∧ RD hp 5 u d
noncomputable def ordV (f : Int → Int → Bool) : V → V → Option Bool
  | .int a, .int b => some (f a b)
  | _, _ => none
noncomputable def inV : V → V → Option Bool
  | .int a, .seq s => (seqInts s).map (·.contains a)
  | _, _ => none
noncomputable def niV : V → V → Hp → Option Bool
  | .int a, .seq s, _ => (seqInts s).map (!·.contains a)
  | .int a, .ref i, hp => match hp[i]? with
    | some (.tuple [.int x, .int y]) => some (!(a == x || a == y))
    | _ => none
  | _, _, _ => none
noncomputable def isV : V → V → Option Bool
  | .none, .none => some true
  | .int _, .none => some false
  | .ref _, .none => some false
  | _, _ => none
open Classical in
noncomputable def eqV : V → V → Hp → Option Bool
  | .int a, .int b, _ => some (a == b)
  | .str a, .str b, _ => some (a == b)
  | .bytes a, .bytes b, _ => some (a == b)
  | .ref i, .ref j, hp => if Same hp (.ref i) (.ref j) then some true else none
  | _, _, _ => none
open Classical in
noncomputable def neV : V → V → Hp → Option Bool
  | .int a, .int b, _ => some (a != b)
  | .str a, .str b, _ => some (a != b)
  | .ref i, .ref j, hp => if Same hp (.ref i) (.ref j) then some false else none
  | _, _, _ => none
noncomputable def cmpV (op : CmpOp) (u v : V) (hp : Hp) : Option Bool := match op with
  | .Eq => eqV u v hp
  | .NotEq => neV u v hp
  | .Lt => ordV (fun a b => decide (a < b)) u v
  | .LtE => ordV (fun a b => decide (a ≤ b)) u v
  | .Gt => ordV (fun a b => decide (b < a)) u v
  | .GtE => ordV (fun a b => decide (b ≤ a)) u v
  | .In => inV u v
  | .NotIn => niV u v hp
  | .Is => isV u v
  | _ => none
noncomputable def trV : V → Hp → Option Bool
  | .bool b, _ => some b
  | .ref i, hp => match hp[i]? with
    | some (.list xs) => if xs.length ≤ 1000000 then some (!xs.isEmpty) else none
    | _ => none
  | _, _ => none
noncomputable def fget : List (Str × V) → Str → Option V
  | [], _ => none
  | (n, v) :: r, x => if n = x then some v else fget r x
noncomputable def fput : List (Str × V) → Str → V → List (Str × V)
  | [], x, v => [(x, v)]
  | (n, u) :: r, x, v => if n = x then (n, v) :: r else (n, u) :: fput r x v
/-- the fields of the text's own classes -/
noncomputable def attrOk (C : Addr) (a : Str) : Prop := (C = 187 ∧ (a = Str.ofString "data" ∨ a = Str.ofString "at" ∨ a = Str.ofString "end")) ∨ (C = 285 ∧ (a = Str.ofString "top" ∨ a = Str.ofString "places"))
open Classical in
noncomputable def attrV (a : Str) : V → Hp → Option (V × Hp)
  | .ref i, hp => match hp[i]? with
    | some (.inst C fs) => if attrOk C a then (match fget fs a with | some v => some (v, hp) | none => none) else none
    | _ => none
  | _, _ => none
/-- the text's table of pieces -/
noncomputable def pieces : List (List UInt8) := [[49, 50], [45, 51, 46, 53], [47, 78, 97, 109, 101], [47, 65, 35, 52, 50], [47], [40, 97, 40, 98, 41, 92, 41, 41], [40, 92, 49, 48, 49, 92, 10, 41], [60, 52, 97, 62], [60, 52, 32, 49, 10, 62], [60, 60], [62, 62], [91], [93], [123], [125], [116, 114, 117, 101], [111, 98, 106], [82], [37, 120, 10], [37, 41, 32, 60, 13], [32], [120, 233], [43, 46, 53], [52, 46]]
noncomputable def idxV : V → V → Hp → Option (V × Hp)
  | .bytes b, .int i, hp => if 0 ≤ i ∧ i < b.length ∧ b.length ≤ 1000000 then some (.int (b.getD i.toNat 0).toNat, hp) else none
  | .ref l, .int i, hp => if 0 ≤ i ∧ i < 1000000 then (match hp[l]? with
    | some (.list xs) => (match xs[i.toNat]? with | some v => some (v, hp) | none => none)
    | some (.tuple xs) => (match xs[i.toNat]? with | some v => some (v, hp) | none => none)
    | _ => none) else none
  | .seq a, .int i, hp => if a = 381 ∧ 0 ≤ i then (match pieces[i.toNat]? with | some b => some (.bytes b, hp) | none => none) else none
  | _, _, _ => none
/-- a bound of a slice: left out, or an int that is not below nought -/
noncomputable def lowOf : Option V → Option Nat
  | none => some 0
  | some (.int i) => if 0 ≤ i ∧ i < 1000000 then some i.toNat else none
  | _ => none
noncomputable def hiOf (n : Nat) : Option V → Option Nat
  | none => some n
  | some (.int i) => if 0 ≤ i ∧ i < 1000000 then some i.toNat else none
  | _ => none
noncomputable def cutV (sc : Addr × List Int) : V → Option V → Option V → Hp → Option (V × Hp)
  | .bytes b, l, u, hp => match lowOf l, hiOf b.length u with
    | some l, some u => if b.length ≤ 1000000 then some (.bytes ((b.take u).drop l), hp) else none
    | _, _ => none
  | .ref i, l, u, hp => match hp[i]? with
    | some (.list xs) => (match lowOf l, hiOf xs.length u with
      | some l, some u => if xs.length ≤ 1000000 then some (.ref hp.length, hp ++ [.list ((xs.take u).drop l)]) else none
      | _, _ => none)
    | _ => none
  | .scr a, none, some (.int 40), hp => if a = sc.1 then some (.ref hp.length, hp ++ [.list ((sc.2.take 40).map .int)]) else none
  | _, _, _, _ => none
/-- an optional part, evaluated -/
noncomputable def eO : Option Ev → Ls → Hp → Option (Option V × Hp)
  | none => fun _ hp => some (none, hp)
  | some e => fun ls hp => match e ls hp with | some (v, h1) => some (some v, h1) | none => none
noncomputable def eCut (sc : Addr × List Int) (a : Ev) (l u : Option Ev) : Ev := fun ls hp => match a ls hp with
  | some (v, h1) => (match eO l ls h1 with
    | some (x, h2) => (match eO u ls h2 with
      | some (y, h3) => cutV sc v x y h3
      | none => none)
    | none => none)
  | none => none
/-- the text's context: what calls give, how many turns a while may take, the kinds of names, the cells -/
structure Cx where
  C : Orc
  n : Nat
  sc : Addr × List Int
  names : List (Str × NameKind)
  cells : List (Str × Nat)
/-- what a name of the top is -/
noncomputable def GT : List (Str × V) := [("WHITE", .seq 62), ("DELIMITERS", .seq 63), ("LINE_FEED", .int 10), ("RETURN", .int 13), ("COMMENT", .int 37), ("is_white", .fn 70), ("is_regular", .fn 77), ("Cursor", .fn 187),
  ("MOST_FIGURES_decimals", .int 40), ("PLUS", .int 43), ("MINUS", .int 45), ("POINT", .int 46), ("ZERO", .int 48), ("Decimal", .fn 285), ("read_decimal", .fn 303), ("PAREN", .int 40), ("CLOSE_PAREN", .int 41), ("LESS", .int 60), ("GREATER", .int 62),
  ("SLASH", .int 47), ("BACKSLASH", .int 92), ("HASH", .int 35), ("SIGNS", .seq 304), ("hex_worth", .fn 311), ("plain_escape", .fn 318), ("name_text", .fn 326), ("octal", .fn 333), ("escaped_codes", .fn 340), ("literal", .fn 347), ("hex_string", .fn 352),
  ("run_token", .fn 359), ("delimited_token", .fn 366), ("next_token", .fn 373), ("tokens_of", .fn 380), ("_law_pieces", .seq 381), ("_law_whites", .fn 388), ("_law_draw", .fn 395), ("_law_part", .fn 400), ("_law_told", .fn 407),
  ("len", .bi .len), ("chr", .bi .chr), ("min", .bi .min), ("isinstance", .bi .isinstance), ("int", .bi .int), ("range", .bi .range), ("bytes", .bi .bytes), ("abs", .bi .abs)].map fun p => (Str.ofString p.1, p.2)
noncomputable def eName (cx : Cx) (x : Str) : Ev := match cx.names.lookup x with
  | some .local => eLoc x
  | some .cell => eCell (cx.cells.lookup x)
  | some .globalImplicit => (match GT.lookup x with | some v => eV v | none => eNo)
  | _ => eNo
noncomputable def eConst : Const → Ev
  | .none => eV .none
  | .bool b => eV (.bool b)
  | .int i => eV (.int i)
  | .str s => eV (.str s)
  | .bytes b => eV (.bytes b)
  | _ => eNo
noncomputable def byteJoin (hp : Hp) : List V → Option (List UInt8)
  | [] => some []
  | .bytes b :: r => (byteJoin hp r).map (b ++ ·)
  | _ :: _ => none
noncomputable def strJoin (hp : Hp) : List V → Option (List Nat)
  | [] => some []
  | .str s :: r => (strJoin hp r).map (s.cps.toList ++ ·)
  | _ :: _ => none
noncomputable def octets : List V → Option (List UInt8)
  | [] => some []
  | .int i :: r => if 0 ≤ i ∧ i < 256 then (octets r).map (i.toNat.toUInt8 :: ·) else none
  | _ :: _ => none
noncomputable def lenB : List V → Hp → Option (V × Hp)
  | [.bytes b], hp => if b.length ≤ 1000000 then some (.int b.length, hp) else none
  | [.ref i], hp => match hp[i]? with
    | some (.list xs) => if xs.length ≤ 1000000 then some (.int xs.length, hp) else none
    | _ => none
  | _, _ => none
noncomputable def oneB (f : Int → Option V) : List V → Hp → Option (V × Hp)
  | [.int i], hp => (f i).map (·, hp)
  | _, _ => none
noncomputable def minB : List V → Hp → Option (V × Hp)
  | [.int a, .int b], hp => some (.int (if b < a then b else a), hp)
  | _, _ => none
noncomputable def isiB : List V → Hp → Option (V × Hp)
  | [u, .bi .int], hp => match u with
    | .int _ => some (.bool true, hp)
    | .ref i => (match hp[i]? with
      | some (.inst 285 _) => some (.bool false, hp)
      | _ => none)
    | _ => none
  | _, _ => none
noncomputable def bytB : List V → Hp → Option (V × Hp)
  | [.ref i], hp => match hp[i]? with
    | some (.list xs) => if xs.length ≤ 1000000 then (octets xs).map fun b => (.bytes b, hp) else none
    | _ => none
  | _, _ => none
noncomputable def callB (b : Bi) (vs : List V) (hp : Hp) : Option (V × Hp) := match b with
  | .len => lenB vs hp
  | .chr => oneB (fun i => if 0 ≤ i ∧ i ≤ 1114111 then some (.str ⟨#[i.toNat]⟩) else none) vs hp
  | .min => minB vs hp
  | .abs => oneB (fun a => some (.int a.natAbs)) vs hp
  | .int => oneB (fun a => some (.int a)) vs hp
  | .isinstance => isiB vs hp
  | .bytes => bytB vs hp
  | _ => none
noncomputable def callV (C : Orc) : V → List V → Hp → Option (V × Hp)
  | .fn a, vs, hp => C a vs hp
  | .bi b, vs, hp => callB b vs hp
  | _, _, _ => none
noncomputable def MT : List ((Addr × Str) × Addr) := [(187, "is_done", 106), (187, "peek", 114), (187, "take", 121), (187, "starts", 128), (187, "skip", 135), (187, "skip_white", 142), (187, "take_regular", 149), (187, "skip_line_end", 156), (285, "told", 268)].map fun p => ((p.1, Str.ofString p.2.1), p.2.2)
inductive Mk where
  | fn (a : Addr)
  | append | extend | bjoin | sjoin
noncomputable def methR (name : Str) : V → Hp → Option Mk
  | .ref i, hp => match hp[i]? with
    | some (.inst C fs) => (match MT.lookup (C, name), fget fs name with | some f, none => some (.fn f) | _, _ => none)
    | some (.list _) => if name = Str.ofString "append" then some .append else if name = Str.ofString "extend" then some .extend else none
    | _ => none
  | .bytes [], _ => if name = Str.ofString "join" then some .bjoin else none
  | .str x, _ => if name = Str.ofString "join" ∧ x = ⟨#[]⟩ then some .sjoin else none
  | _, _ => none
noncomputable def appV : V → List V → Hp → Option (V × Hp)
  | .ref i, [v], hp => match hp[i]? with
    | some (.list xs) => if xs.length ≤ 1000000 then some (.none, hp.set i (.list (xs ++ [v]))) else none
    | _ => none
  | _, _, _ => none
noncomputable def extV : V → List V → Hp → Option (V × Hp)
  | .ref i, [.ref j], hp => match hp[i]?, hp[j]? with
    | some (.list xs), some (.list ys) => if xs.length ≤ 1000000 ∧ ys.length ≤ 1000000 then some (.none, hp.set i (.list (xs ++ ys))) else none
    | _, _ => none
  | _, _, _ => none
noncomputable def joiV {α : Type} (f : Hp → List V → Option (List α)) (g : List α → V) : List V → Hp → Option (V × Hp)
  | [.ref i], hp => match hp[i]? with
    | some (.list xs) => (match f hp xs with | some b => if xs.length ≤ 1000000 ∧ b.length ≤ 1000000 then some (g b, hp) else none | none => none)
    | _ => none
  | _, _ => none
noncomputable def methC (C : Orc) (k : Mk) (v : V) (vs : List V) (hp : Hp) : Option (V × Hp) := match k with
  | .fn f => C f (v :: vs) hp
  | .append => appV v vs hp
  | .extend => extV v vs hp
  | .bjoin => joiV byteJoin (fun b => .bytes b) vs hp
  | .sjoin => joiV strJoin (fun b => .str ⟨b.toArray⟩) vs hp
noncomputable def eMeth (C : Orc) (name : Str) (a : Ev) (es : List Ev) : Ev := fun ls hp => match a ls hp with
  | some (v, h1) => (match methR name v h1 with
    | some k => (match eAll es ls h1 with | some (vs, h2) => methC C k v vs h2 | none => none)
    | none => none)
  | none => none
noncomputable def newO (f : List V → O) (vs : List V) (hp : Hp) : Option (V × Hp) := if vs.length ≤ 1000000 then some (.ref hp.length, hp ++ [f vs]) else none
noncomputable def rangeOf : List V → Option (List Int)
  | [.int n] => if 0 ≤ n ∧ n ≤ 1000000 then some ((List.range n.toNat).map Int.ofNat) else none
  | [.int a, .int n, .int c] => if a = 0 ∧ c = 2 ∧ 0 ≤ n ∧ n ≤ 1000000 then some ((List.range ((n.toNat + 1) / 2)).map fun k => 2 * Int.ofNat k) else none
  | _ => none
noncomputable def bind1 (x : Str) (v : V) (ls : Ls) : Ls := fun y => if y = x then some v else ls y
open Classical in
/-- the elements of a comprehension, one by one, onto the list l -/
noncomputable def compGo (chk : Hp → Prop) (e : Ev) (x : Str) (l : Nat) : List V → Hp → Option Hp
  | [], hp => if chk hp then some hp else none
  | v :: vs, hp => if chk hp then (match e (bind1 x v fun _ => none) hp with
    | some (u, h1) => (match h1[l]? with
      | some (.list xs) => if xs.length ≤ 1000000 then compGo chk e x l vs (h1.set l (.list (xs ++ [u]))) else none
      | _ => none)
    | none => none) else none
noncomputable def eCompR (e : Ev) (x : Str) (args : List Ev) : Ev := fun ls hp => match eAll args ls hp with
  | some (vs, h1) => (match rangeOf vs with
    | some is => (match compGo (fun _ => True) e x h1.length (is.map .int) (h1 ++ [.list []]) with
      | some h2 => some (.ref h1.length, h2)
      | none => none)
    | none => none)
  | none => none
/-- over a list that the head makes -/
noncomputable def eCompL (e : Ev) (x : Str) (src : Ev) : Ev := fun ls hp => match src ls hp with
  | some (.ref i, h1) => (match h1[i]? with
    | some (.list xs) => if xs.length ≤ 1000000 then (match compGo (fun hp => hp[i]? = some (.list xs)) e x h1.length xs (h1 ++ [.list []]) with
      | some h2 => some (.ref h1.length, h2)
      | none => none) else none
    | _ => none)
  | _ => none
-- statements
noncomputable def sNo : Ex := fun _ _ => none
noncomputable def sExpr (e : Ev) : Ex := fun ls hp => match e ls hp with
  | some (.none, h1) => some (.next, ls, h1)
  | some (.int _, h1) => some (.next, ls, h1)
  | some (.bool _, h1) => some (.next, ls, h1)
  | _ => none
noncomputable def sAsg (x : Str) (e : Ev) : Ex := fun ls hp => match e ls hp with | some (v, h1) => some (.next, bind1 x v ls, h1) | none => none
noncomputable def sAsgC (i : Option Nat) (e : Ev) : Ex := fun ls hp => match e ls hp with
  | some (v, h1) => (match i with
    | some i => (match h1[i]? with | some (.cell _) => some (.next, ls, h1.set i (.cell (some v))) | _ => none)
    | none => none)
  | none => none
open Classical in
noncomputable def sAttr (o : Ev) (a : Str) (e : Ev) : Ex := fun ls hp => match e ls hp with
  | some (v, h1) => (match o ls h1 with
    | some (.ref i, h2) => (match h2[i]? with
      | some (.inst C fs) => if attrOk C a ∧ fs.length ≤ 10 then some (.next, ls, h2.set i (.inst C (fput fs a v))) else none
      | _ => none)
    | _ => none)
  | none => none
noncomputable def sItem (o i e : Ev) : Ex := fun ls hp => match e ls hp with
  | some (v, h1) => (match o ls h1 with
    | some (.ref l, h2) => (match i ls h2 with
      | some (.int k, h3) => (match h3[l]? with
        | some (.list xs) => if 0 ≤ k ∧ k < xs.length ∧ xs.length ≤ 1000000 then some (.next, ls, h3.set l (.list (xs.set k.toNat v))) else none
        | _ => none)
      | _ => none)
    | _ => none)
  | none => none
noncomputable def sIf (t : Tr) (a b : Ex) : Ex := fun ls hp => match t ls hp with
  | some (true, h1) => a ls h1
  | some (false, h1) => b ls h1
  | none => none
noncomputable def sRet (e : Ev) : Ex := fun ls hp => match e ls hp with | some (v, h1) => some (.ret v, ls, h1) | none => none
noncomputable def sCont : Ex := fun ls hp => some (.cont, ls, hp)
noncomputable def sAll : List Ex → Ex
  | [] => fun ls hp => some (.next, ls, hp)
  | e :: es => fun ls hp => match e ls hp with
    | some (.next, l1, h1) => sAll es l1 h1
    | r => r
noncomputable def sWhile (t : Tr) (b : Ex) : Nat → Ex
  | 0 => sNo
  | n + 1 => fun ls hp => match t ls hp with
    | some (true, h1) => (match b ls h1 with
      | some (.ret v, l2, h2) => some (.ret v, l2, h2)
      | some (_, l2, h2) => sWhile t b n l2 h2
      | none => none)
    | some (false, h1) => some (.next, ls, h1)
    | none => none
open Classical in
/-- the turns of a for: each item is bound, the body run -/
noncomputable def sTurns (chk : Hp → Prop) (bd : V → Ls → Hp → Option Ls) (b : Ex) : List V → Ex
  | [] => fun ls hp => if chk hp then some (.next, ls, hp) else none
  | v :: vs => fun ls hp => if chk hp then (match bd v ls hp with
    | some l1 => (match b l1 hp with
      | some (.ret u, l2, h2) => some (.ret u, l2, h2)
      | some (_, l2, h2) => sTurns chk bd b vs l2 h2
      | none => none)
    | none => none) else none
noncomputable def bdName (x : Str) : V → Ls → Hp → Option Ls := fun v ls _ => some (bind1 x v ls)
noncomputable def bdThree (x y z : Str) : V → Ls → Hp → Option Ls := fun v ls hp => match v with
  | .ref i => (match hp[i]? with
    | some (.tuple [a, b, c]) => some (bind1 z c (bind1 y b (bind1 x a ls)))
    | _ => none)
  | _ => none
noncomputable def sForB (x : Str) (e : Ev) (b : Ex) : Ex := fun ls hp => match e ls hp with
  | some (.bytes d, h1) => if d.length ≤ 1000000 then sTurns (fun _ => True) (bdName x) b (d.map fun c => .int c.toNat) ls h1 else none
  | _ => none
noncomputable def sForR (x : Str) (args : List Ev) (b : Ex) : Ex := fun ls hp => match eAll args ls hp with
  | some (vs, h1) => (match rangeOf vs with
    | some is => sTurns (fun _ => True) (bdName x) b (is.map .int) ls h1
    | none => none)
  | none => none
noncomputable def sForT (x y z : Str) (e : Ev) (b : Ex) : Ex := fun ls hp => match e ls hp with
  | some (.ref i, h1) => (match h1[i]? with
    | some (.list xs) => if xs.length ≤ 1000000 then sTurns (fun hp => hp[i]? = some (.list xs)) (bdThree x y z) b xs ls h1 else none
    | _ => none)
  | _ => none
/-- a comprehension's own names: what is free in it is a cell of the def's -/
noncomputable def subCx (cx : Cx) (sc : Scope) : Cx := { cx with names := sc.names.map (fun p => (p.1, match p.2 with | .free => .cell | k => k)), cells := cx.cells.filter fun p => sc.names.contains (p.1, .free) }
noncomputable def isRange (cx : Cx) (f : Str) : Bool := match cx.names.lookup f with
  | some .globalImplicit => f == Str.ofString "range"
  | _ => false
noncomputable def notSet : Expr → Bool
  | .Set .. => false
  | _ => true
noncomputable def plainBase : Expr → Bool
  | .Call (.Name _ _) [] [] _ => false
  | _ => true
noncomputable def freeOk (cx : Cx) (sc : Scope) (x : Str) : Bool := sc.kind == .function && sc.names.all (fun p => (p.2 == .free || p.2 == .local || p.2 == .globalImplicit) && (p.2 != .free || (cx.names.lookup p.1 == some .cell && (cx.cells.lookup p.1).isSome)) && (p.2 != .local || sc.names.lookup p.1 == some .local)) && sc.names.lookup x == some .local && sc.names.lookup (Str.ofString "__debug__") == none
noncomputable def unE (op : UnaryOp) (a : Ev) : Ev := match op with
  | .USub => e1 negV a
  | _ => eNo
noncomputable def boE (op : BoolOp) (vs : List Ev) : Ev := match op with
  | .And => eAnd vs
  | _ => eNo
noncomputable def cpE (E : Expr → Ev) (l : Ev) : List CmpOp → List Expr → Ev
  | [op], [r] => (match notSet r with | true => eTr (tCmp2 (cmpV op) l (E r)) | false => eNo)
  | [o1, o2], [r1, r2] => (match notSet r2 with | true => eTr (tCmp3 (cmpV o1) (cmpV o2) l (E r1) (E r2)) | false => eNo)
  | _, _ => eNo
noncomputable def nmOf : Expr → Option Str
  | .Name x _ => some x
  | _ => none
noncomputable def rangeCall : Expr → Option (Str × List Expr)
  | .Call f args ks _ => (match nmOf f, ks with | some g, [] => some (g, args) | _, _ => none)
  | _ => none
noncomputable def sliceOf : Expr → Option (Option Expr × Option Expr)
  | .Slice l u c _ => (match c with | none => some (l, u) | some _ => none)
  | _ => none
noncomputable def sbE (E : Expr → Ev) (sc : Addr × List Int) (o : Ev) (i : Expr) : Ev := match sliceOf i with
  | some (l, u) => eCut sc o (l.map E) (u.map E)
  | none => e2 idxV o (E i)
/-- a call's callee: a method or a name -/
noncomputable def caE (E : Expr → Ev) (cx : Cx) (args : List Expr) (p : Pos) : Expr → Ev
  | .Attribute o m ap => (match plainBase o && ap.endLine == p.line && decide (args.length ≤ 5) with | true => eMeth cx.C m (E o) (args.map E) | false => eNo)
  | .Name f _ => (match decide (args.length ≤ 5) with | true => e1S (callV cx.C) (eName cx f) (args.map E) | false => eNo)
  | _ => eNo
/-- what a comprehension runs over: a range's args, or a slice -/
inductive Over where
  | no
  | rg (f : Str) (args : List Expr)
  | cut (o : Expr) (l u : Option Expr)
noncomputable def overOf (e : Expr) : Over := match rangeCall e with
  | some (f, args) => .rg f args
  | none => (match e with
    | .Subscript o i _ => (match sliceOf i with | some (l, u) => .cut o l u | none => .no)
    | _ => .no)
noncomputable def lcE (E E' : Expr → Ev) (cx : Cx) (elt : Expr) (sc : Scope) (x : Str) : Over → Ev
  | .rg f args => (match isRange cx f && freeOk cx sc x && decide (args.length ≤ 5) with
      | true => eCompR (E' elt) x (args.map E)
      | false => eNo)
  | .cut o l u => (match freeOk cx sc x with
      | true => eCompL (E' elt) x (eCut cx.sc (E o) (l.map E) (u.map E))
      | false => eNo)
  | .no => eNo
noncomputable def compOf : List Comprehension → Option (Str × Expr)
  | [g] => (match nmOf g.target, g.ifs.isEmpty && g.is_async == 0 with | some x, true => some (x, g.iter) | _, _ => none)
  | _ => none
noncomputable def atE (E : Expr → Ev) (o : Expr) (a : Str) : Ev := match plainBase o with
  | true => e1 (attrV a) (E o)
  | false => eNo
noncomputable def gcE (E E' : Expr → Ev) (cx : Cx) (elt : Expr) (sc : Scope) (gens : List Comprehension) : Ev := match compOf gens with
  | some (x, it) => lcE E E' cx elt sc x (overOf it)
  | none => eNo
noncomputable def kcE (E : Expr → Ev) (cx : Cx) (f : Expr) (args : List Expr) (ks : List Keyword) (p : Pos) : Ev := match ks with
  | [] => caE E cx args p f
  | _ => eNo
noncomputable def unT (op : UnaryOp) (a : Tr) : Tr := match op with
  | .Not => tNot a
  | _ => fun _ _ => none
noncomputable def boT (op : BoolOp) (vs : List Tr) : Tr := match op with
  | .And => tAnd vs
  | .Or => tOr vs
noncomputable def cpT (E : Expr → Ev) (l : Ev) : List CmpOp → List Expr → Tr
  | [op], [r] => (match notSet r with | true => tCmp2 (cmpV op) l (E r) | false => fun _ _ => none)
  | [o1, o2], [r1, r2] => (match notSet r2 with | true => tCmp3 (cmpV o1) (cmpV o2) l (E r1) (E r2) | false => fun _ _ => none)
  | _, _ => fun _ _ => none
mutual
noncomputable def evE : Nat → Cx → Expr → Ev
  | 0, _, _ => eNo
  | d + 1, cx, e => match e with
    | .Constant c _ _ => eConst c
    | .Name x _ => eName cx x
    | .BinOp l op r _ => e2 (binV op) (evE d cx l) (evE d cx r)
    | .UnaryOp op x _ => unE op (evE d cx x)
    | .BoolOp op vs _ => boE op (vs.map (evE d cx))
    | .IfExp t a b _ => eIf (evT d cx t) (evE d cx a) (evE d cx b)
    | .Compare l ops rs _ => cpE (evE d cx) (evE d cx l) ops rs
    | .Attribute o a _ => atE (evE d cx) o a
    | .Subscript o i _ => sbE (evE d cx) cx.sc (evE d cx o) i
    | .List es _ => eS (newO .list) (es.map (evE d cx))
    | .Tuple es _ _ => eS (newO .tuple) (es.map (evE d cx))
    | .Call f args ks p => kcE (evE d cx) cx f args ks p
    | .ListComp elt gens sc _ => gcE (evE d cx) (evE d (subCx cx sc)) cx elt sc gens
    | _ => eNo
noncomputable def evT : Nat → Cx → Expr → Tr
  | 0, _, _ => fun _ _ => none
  | d + 1, cx, e => match e with
    | .UnaryOp op x _ => unT op (evT d cx x)
    | .BoolOp op vs _ => boT op (vs.map (evT d cx))
    | .Compare l ops rs _ => cpT (evE d cx) (evE d cx l) ops rs
    | .Name x p => tOf (evE d cx (.Name x p)) trV
    | .Call f as ks p => tOf (evE d cx (.Call f as ks p)) trV
    | .Subscript o i p => tOf (evE d cx (.Subscript o i p)) trV
    | _ => fun _ _ => none
end
noncomputable def noComp : Expr → Bool
  | .ListComp .. | .SetComp .. | .DictComp .. => false
  | _ => true
noncomputable def xpX (E : Expr → Ev) (e : Expr) : Ex := match noComp e with
  | true => sExpr (E e)
  | false => sNo
/-- an assignment's target -/
noncomputable def asX (E : Expr → Ev) (cx : Cx) (e : Expr) : Expr → Ex
  | .Name x _ => (match noComp e, cx.names.lookup x with
      | true, some .local => sAsg x (E e)
      | true, some .cell => sAsgC (cx.cells.lookup x) (E e)
      | _, _ => sNo)
  | .Attribute o a _ => sAttr (E o) a (E e)
  | .Subscript o i _ => sItem (E o) (E i) (E e)
  | _ => sNo
/-- a for's target and what it runs over -/
noncomputable def threeOf : List Expr → Option (Str × Str × Str)
  | [a, b, c] => (match nmOf a, nmOf b, nmOf c with | some x, some y, some z => some (x, y, z) | _, _, _ => none)
  | _ => none
noncomputable def foX (E : Expr → Ev) (cx : Cx) (it : Expr) (b : Ex) : Expr → Ex
  | .Name x _ => (match rangeCall it with
    | some (f, args) => (match isRange cx f && decide (args.length ≤ 5) && cx.names.lookup x == some .local with
      | true => sForR x (args.map E) b
      | false => sNo)
    | none => (match cx.names.lookup x == some .local && notSet it with | true => sForB x (E it) b | false => sNo))
  | .Tuple ts _ _ => (match threeOf ts with
    | some (x, y, z) => (match cx.names.lookup x == some .local && cx.names.lookup y == some .local && cx.names.lookup z == some .local && notSet it with | true => sForT x y z (E it) b | false => sNo)
    | none => sNo)
  | _ => sNo
noncomputable def exS : Nat → Cx → Stmt → Ex
  | 0, _, _ => sNo
  | d + 1, cx, s => match s with
    | .Expr e _ => xpX (evE d cx) e
    | .Assign ts e _ => (match ts with | [t] => asX (evE d cx) cx e t | _ => sNo)
    | .If t a b _ => sIf (evT d cx t) (sAll (a.map (exS d cx))) (sAll (b.map (exS d cx)))
    | .While t b el _ => (match el with | [] => sWhile (evT d cx t) (sAll (b.map (exS d cx))) cx.n | _ => sNo)
    | .For tg it b el _ => (match el with | [] => foX (evE d cx) cx it (sAll (b.map (exS d cx))) tg | _ => sNo)
    | .Return o _ => (match o with | some e => sRet (evE d cx e) | none => sRet (eV .none))
    | .Continue _ => sCont
    | _ => sNo
end Mine

open PySem PySem.W PyProof.Rows PySem.Calls
set_option Elab.async false
set_option maxRecDepth 100000
set_option maxHeartbeats 1000000
namespace Mine
/-- the world, the heap at the law's start, its top's names, the script -/
structure Wd where
  w : World
  h0 : Heap
  mg : Str → Option Value
  mb : Str → Option Value
  os : OsState
  sc : Addr × List Int
  kin : (KK w.params).In h0
  g : h0.Ns mainGlobals mg
  b : h0.Ns builtinsNs mb
  lim : h0.NoLimit
  bt : ∀ x : Str, x ≠ "__name__" → mb x = bootBuiltins x
  scl : ∃ vs : List Value, h0.IsList sc.1 vs.toArray ∧ IntsAre vs sc.2
  scn : sc.2.length ≤ 1000
/-- the room that a call d deep wants -/
structure Rm (A : Around) (d : Nat) : Prop where
  hd : A.handled = none
  gd : A.guards = some []
  dp : A.depth + 20 * d + 20 < recursionLimit
  un : A.units + 200 * d + 200 < cLine
structure EnvOk (cx : Cx) (th : Th) (env : Env) : Prop where
  kind : env.scope.kind = .function
  glob : env.globals = mainGlobals
  blt : env.builtins = builtinsNs
  names : env.scope.names = cx.names
  cells : ∀ x i, cx.cells.lookup x = some i → ∃ c d, th[i]? = some (c, d) ∧ env.cells.lookup x = some c
structure Inv (W : Wd) (L : Addr) (th : Th) (ls : Ls) (hp : Hp) (s : Shared) : Prop where
  hr : HR W.w.params W.h0 th hp s.heap
  lo : ∃ m, Fr W.h0 L s.heap m ∧ ∀ x v, ls x = some v → ∃ c, m x = some c ∧ VR th v c
  off : L ∉ AS th
  gens : s.gens = #[]
  os : s.os = W.os
def Post (W : Wd) (L : Addr) (th : Th) (ls : Ls) (hp' : Hp) (v : V) (s : Shared) : Value → Shared → Prop :=
  fun c s' => ∃ th', Inv W L th' ls hp' s' ∧ Go L th s.heap th' s'.heap ∧ VR th' v c
theorem get_pre {α : Type} {a b : List α} (p : a <+: b) {i : Nat} {x : α} (h : a[i]? = some x) : b[i]? = some x := by
  obtain ⟨t, rfl⟩ := p
  rw [List.getElem?_append_left (List.getElem?_eq_some_iff.mp h).1]; exact h
theorem EnvOk.mono {cx : Cx} {th th' : Th} {env : Env} (e : EnvOk cx th env) (p : th <+: th') : EnvOk cx th' env :=
  ⟨e.kind, e.glob, e.blt, e.names, fun x i h => let ⟨c, d, a, b⟩ := e.cells x i h; ⟨c, d, get_pre p a, b⟩⟩
theorem Rm.in1 {A : Around} {d : Nat} (r : Rm A (d + 1)) : Rm A.in1 d := ⟨r.hd, r.gd, by have := r.dp; have e : A.in1.depth = A.depth := rfl; omega, by have := r.un; have e : A.in1.units = A.units + 1 := rfl; omega⟩
theorem Rm.deeper {A : Around} {d : Nat} {env : Env} (r : Rm A (d + 1)) : Rm (A.deeper env) d := ⟨r.hd, r.gd, by have := r.dp; have e : (A.deeper env).depth = A.depth + 1 := rfl; omega, by have := r.un; have e : (A.deeper env).units = A.units + 3 := rfl; omega⟩
theorem Rm.room {A : Around} {d : Nat} (r : Rm A d) : A.depth < recursionLimit := by have := r.dp; omega
theorem Rm.less {A : Around} {d e : Nat} (r : Rm A d) (h : e ≤ d) : Rm A e := ⟨r.hd, r.gd, by have := r.dp; omega, by have := r.un; omega⟩
section
variable {W : Wd} {L : Addr} {th th' : Th} {ls : Ls} {hp : Hp} {s : Shared}
theorem Inv.keep (I : Inv W L th ls hp s) : ∀ b o, W.h0.get? b = some o → s.heap.get? b = some o := I.hr.keep
theorem Inv.kin (I : Inv W L th ls hp s) : (KK W.w.params).In s.heap := Frag.In.keeps W.kin I.hr.keep
theorem Inv.off0 (I : Inv W L th ls hp s) : W.h0.get? L = none := by
  obtain ⟨m, F, _⟩ := I.lo
  cases e : W.h0.get? L with
  | none => rfl
  | some o => exact absurd (Heap.lt_size e) (Nat.not_lt.mpr F.above)
theorem Inv.live (I : Inv W L th ls hp s) : ∃ o, s.heap.get? L = some o := let ⟨_, F, _⟩ := I.lo; let ⟨o, _, _, g, _⟩ := F.ns; ⟨o, g⟩
theorem Inv.toks (I : Inv W L th ls hp s) (k : Nat) : Inv W L th ls hp { s with toks := k } := ⟨I.hr, I.lo, I.off, I.gens, I.os⟩
theorem Inv.post (I : Inv W L th ls hp s) {v : V} {c : Value} (h : VR th v c) : Post W L th ls hp v s c s := ⟨th, I, Go.refl .., h⟩
theorem Inv.postT (I : Inv W L th ls hp s) {v : V} {c : Value} {k : Nat} (h : VR th v c) : Post W L th ls hp v s c { s with toks := k } := ⟨th, I.toks k, Go.refl .., h⟩
theorem Inv.keptF (I : Inv W L th ls hp s) {h' : Heap} {k : Nat} {m : Str → Option Value} (hm : ∀ x v, ls x = some v → ∃ c, m x = some c ∧ VR th v c) (F : Fr W.h0 L h' m)
    (hk : ∀ b o, b ≠ L → s.heap.get? b = some o → h'.get? b = some o) : Inv W L th ls hp { s with heap := h', toks := k } ∧ Go L th s.heap th h' :=
  have l : ∃ o, h'.get? L = some o := let ⟨o, _, _, g, _⟩ := F.ns; ⟨o, g⟩
  ⟨⟨I.hr.stays I.off I.off0 hk, ⟨m, F, hm⟩, I.off, I.gens, I.os⟩, Go.stays hk l⟩
theorem Inv.kept (I : Inv W L th ls hp s) {h' : Heap} {k : Nat} (hk : ∀ b o, s.heap.get? b = some o → h'.get? b = some o) : Inv W L th ls hp { s with heap := h', toks := k } ∧ Go L th s.heap th h' :=
  let ⟨_, F, hm⟩ := I.lo; I.keptF hm (F.after hk) fun b o _ e => hk b o e
theorem AS_off {p : Addr × Option Addr} (h : L ∉ AS th) (f : ∀ a ∈ A1 p, a ≠ L) : L ∉ AS (th ++ [p]) := by
  intro q
  rw [AS_append] at q
  rcases List.mem_append.mp q with q | q
  · exact h q
  · simp [AS] at q; exact f _ q rfl
theorem Inv.bornF (I : Inv W L th ls hp s) {h' : Heap} {k : Nat} {m : Str → Option Value} {p : Addr × Option Addr} {o : O} (hm : ∀ x v, ls x = some v → ∃ c, m x = some c ∧ VR th v c) (F : Fr W.h0 L h' m)
    (hk : ∀ b o, b ≠ L → s.heap.get? b = some o → h'.get? b = some o) (fresh : ∀ a ∈ A1 p, s.heap.get? a = none) (nd : (A1 p).Nodup) (n : OAt W.w.params (th ++ [p]) h' p o) :
    Inv W L (th ++ [p]) ls (hp ++ [o]) { s with heap := h', toks := k } ∧ Go L th s.heap (th ++ [p]) h' := by
  have l : ∃ o, h'.get? L = some o := let ⟨o, _, _, g, _⟩ := F.ns; ⟨o, g⟩
  obtain ⟨r, g⟩ := I.hr.born I.off I.off0 hk l fresh nd n
  refine ⟨⟨r, ⟨m, F, fun x v e => let ⟨c, a, b⟩ := hm x v e; ⟨c, a, b.mono (List.prefix_append _ _)⟩⟩, AS_off I.off fun a ha e => ?_, I.gens, I.os⟩, g⟩
  obtain ⟨o, q⟩ := I.live
  rw [← e, fresh a ha] at q; cases q
theorem Inv.born (I : Inv W L th ls hp s) {h' : Heap} {k : Nat} {p : Addr × Option Addr} {o : O} (hk : ∀ b o, s.heap.get? b = some o → h'.get? b = some o) (fresh : ∀ a ∈ A1 p, s.heap.get? a = none) (nd : (A1 p).Nodup)
    (n : OAt W.w.params (th ++ [p]) h' p o) : Inv W L (th ++ [p]) ls (hp ++ [o]) { s with heap := h', toks := k } ∧ Go L th s.heap (th ++ [p]) h' :=
  let ⟨_, F, hm⟩ := I.lo; I.bornF hm (F.after hk) (fun b o _ e => hk b o e) fresh nd n
theorem Inv.turn (I : Inv W L th ls hp s) {h' : Heap} {k : Nat} {i : Nat} {p : Addr × Option Addr} {o' : O} {a : Addr} (hp' : th[i]? = some p) (ha : a ∈ A1 p) (hk : ∀ b o, b ≠ a → s.heap.get? b = some o → h'.get? b = some o)
    (n : OAt W.w.params th h' p o') : Inv W L th ls (hp.set i o') { s with heap := h', toks := k } ∧ Go L th s.heap th h' := by
  obtain ⟨r, g⟩ := I.hr.turn I.off hp' ha hk n
  have hm' : a ∈ AS th := List.mem_flatMap.mpr ⟨p, List.mem_of_getElem? hp', ha⟩
  obtain ⟨m, F, hm⟩ := I.lo
  have hL : L ≠ a := fun e => I.off (e ▸ hm')
  refine ⟨⟨r, ⟨m, ⟨?_, r.keep, F.above⟩, hm⟩, I.off, I.gens, I.os⟩, g⟩
  obtain ⟨o, es, ep, g, q⟩ := F.ns
  exact ⟨o, es, ep, hk _ _ hL g, q⟩
/-- one more name -/
theorem Inv.bound (I : Inv W L th ls hp s) {h' : Heap} {k : Nat} {x : Str} {v : V} {c : Value} (hv : VR th v c)
    (h : ∀ m, s.heap.Ns L m → h'.Ns L (fun y => if y = x then some c else m y)) (hs : Heap.SameBut L s.heap h') : Inv W L th (bind1 x v ls) hp { s with heap := h', toks := k } ∧ Go L th s.heap th h' := by
  obtain ⟨m, F, hm⟩ := I.lo
  have hk : ∀ b o, b ≠ L → s.heap.get? b = some o → h'.get? b = some o := fun b o n e => (hs.2 b n).trans e
  have F' : Fr W.h0 L h' (fun y => if y = x then some c else m y) := F.set (h m F.ns) hs
  have l : ∃ o, h'.get? L = some o := let ⟨o, _, _, g, _⟩ := F'.ns; ⟨o, g⟩
  refine ⟨⟨I.hr.stays I.off I.off0 hk, ⟨_, F', fun y u e => ?_⟩, I.off, I.gens, I.os⟩, Go.stays hk l⟩
  unfold bind1 at e
  by_cases q : y = x
  · rw [if_pos q] at e; cases e; exact ⟨c, if_pos q, hv⟩
  · rw [if_neg q] at e
    obtain ⟨c', a, b⟩ := hm y u e
    exact ⟨c', (if_neg q).trans a, b⟩
theorem Post.trans {W : Wd} {L : Addr} {th th' : Th} {ls : Ls} {hp' : Hp} {v : V} {s s' : Shared} {c : Value} {s'' : Shared} (g : Go L th s.heap th' s'.heap) (p : Post W L th' ls hp' v s' c s'') : Post W L th ls hp' v s c s'' :=
  let ⟨t, I, g', r⟩ := p; ⟨t, I, g.trans g', r⟩
/-- all that stands in a heap beside the base and one address -/
noncomputable def allNews (h0 : Heap) (L : Addr) (h : Heap) : List (Addr × Obj) := (List.range h.objs.size).filterMap fun a => match h.get? a with
  | some o => if a ≠ L ∧ h0.get? a = none then some (a, o) else none
  | none => none
theorem mem_all {h0 h : Heap} {L a : Addr} {o : Obj} : (a, o) ∈ allNews h0 L h ↔ h.get? a = some o ∧ a ≠ L ∧ h0.get? a = none := by
  unfold allNews
  rw [List.mem_filterMap]
  constructor
  · rintro ⟨b, hb, e⟩
    split at e
    · rename_i o' g
      split at e
      · rename_i q
        cases e; exact ⟨g, q⟩
      · cases e
    · cases e
  · rintro ⟨g, q⟩
    refine ⟨a, List.mem_range.mpr (Heap.lt_size g), ?_⟩
    rw [g]; dsimp only; rw [if_pos q]
theorem news_all {h0 h : Heap} {L : Addr} : News h0 L h (allNews h0 L h) := fun p hp => by
  obtain ⟨a, o⟩ := p
  exact mem_all.mp hp
theorem kept_all {h0 h h' : Heap} {L : Addr} {news' : List (Addr × Obj)} (k : ∀ b o, h0.get? b = some o → h.get? b = some o) (k' : ∀ b o, h0.get? b = some o → h'.get? b = some o) (N : News h0 L h' news') (sub : ∀ p ∈ allNews h0 L h, p ∈ news') :
    ∀ b o, b ≠ L → h.get? b = some o → h'.get? b = some o := fun b o n e => by
  cases q : h0.get? b with
  | some o' => have := k b o' q; rw [this] at e; cases e; exact k' b _ q
  | none => exact (N _ (sub (b, o) (mem_all.mpr ⟨e, n, q⟩))).1
theorem fresh_size (h : Heap) : h.get? h.objs.size = none := by
  cases e : h.get? h.objs.size with
  | none => rfl
  | some o => exact absurd (Heap.lt_size e) (Nat.lt_irrefl _)
end
end Mine

open PySem PySem.W PyProof.Rows PySem.Calls
set_option Elab.async false
set_option maxRecDepth 100000
set_option maxHeartbeats 1000000
namespace Mine
section
variable {W : Wd} {L : Addr} {th th' : Th} {ls : Ls} {hp hp' : Hp} {s : Shared} {prog : Program} {A : Around} {d : Nat}
abbrev NoE : Value → Shared → Prop := fun _ _ => False
theorem bits_le {a : Int} {n : Nat} (h : a.natAbs < 2 ^ n) : Builtin.Int.intBits a ≤ n := by
  unfold Builtin.Int.intBits
  split
  · exact Nat.zero_le _
  · rename_i q
    have q' : a.natAbs ≠ 0 := by intro z; apply q; simpa using z
    exact (Nat.log2_lt q').mpr h
/-- the heap of a new list, all else kept -/
theorem Inv.newList (I : Inv W L th ls hp s) {h' : Heap} {k : Nat} {m : Str → Option Value} {a : Addr} {xs : List V} {vs : List Value} {n : Nat} (hm : ∀ x v, ls x = some v → ∃ c, m x = some c ∧ VR th v c) (F : Fr W.h0 L h' m)
    (hk : ∀ b o, b ≠ L → s.heap.get? b = some o → h'.get? b = some o) (fresh : s.heap.get? a = none) (g : h'.get? a = some (listOf vs.toArray n)) (r : VRs th xs vs) :
    Post W L th ls (hp ++ [.list xs]) (.ref hp.length) s (.ref a) { s with heap := h', toks := k } := by
  obtain ⟨I', g'⟩ := I.bornF (k := k) (p := (a, none)) (o := .list xs) hm F hk (fun b hb => by simp [A1] at hb; subst hb; exact fresh) (by simp [A1]) ⟨rfl, vs, n, g, r.mono (List.prefix_append _ _)⟩
  exact ⟨_, I', g', a, none, by rw [← I.hr.len]; simp, rfl⟩
theorem Inv.newTuple (I : Inv W L th ls hp s) {h' : Heap} {k : Nat} {m : Str → Option Value} {a : Addr} {xs : List V} {vs : List Value} {n : Nat} (hm : ∀ x v, ls x = some v → ∃ c, m x = some c ∧ VR th v c) (F : Fr W.h0 L h' m)
    (hk : ∀ b o, b ≠ L → s.heap.get? b = some o → h'.get? b = some o) (fresh : s.heap.get? a = none) (g : h'.get? a = some (tupOf vs.toArray n)) (r : VRs th xs vs) :
    Post W L th ls (hp ++ [.tuple xs]) (.ref hp.length) s (.ref a) { s with heap := h', toks := k } := by
  obtain ⟨I', g'⟩ := I.bornF (k := k) (p := (a, none)) (o := .tuple xs) hm F hk (fun b hb => by simp [A1] at hb; subst hb; exact fresh) (by simp [A1]) ⟨rfl, vs, ⟨_, g, rfl, n, rfl⟩, r.mono (List.prefix_append _ _)⟩
  exact ⟨_, I', g', a, none, by rw [← I.hr.len]; simp, rfl⟩
theorem OAt.isLst {P : Params} {h : Heap} {p : Addr × Option Addr} {xs : List V} (o : OAt P th h p (.list xs)) : ∃ (vs : List Value) (k : Nat), h.get? p.1 = some (listOf vs.toArray k) ∧ VRs th xs vs := let ⟨_, vs, k, g, r⟩ := o; ⟨vs, k, g, r⟩
theorem OAt.isList {P : Params} {h : Heap} {p : Addr × Option Addr} {xs : List V} (o : OAt P th h p (.list xs)) : ∃ vs : List Value, h.IsList p.1 vs.toArray ∧ VRs th xs vs := let ⟨_, vs, _, g, r⟩ := o; ⟨vs, ⟨_, g, rfl, _, rfl⟩, r⟩
theorem OAt.isTup {P : Params} {h : Heap} {p : Addr × Option Addr} {xs : List V} (o : OAt P th h p (.tuple xs)) : ∃ vs : List Value, IsTup h p.1 vs.toArray ∧ VRs th xs vs := let ⟨_, vs, g, r⟩ := o; ⟨vs, g, r⟩
/-- what stands at a number -/
theorem Inv.at {W : Wd} {L : Addr} {th : Th} {ls : Ls} {hp : Hp} {s : Shared} (I : Inv W L th ls hp s) {i : Nat} {o : O} (e : hp[i]? = some o) {c : Value} (h : VR th (.ref i) c) : ∃ a d, c = .ref a ∧ th[i]? = some (a, d) ∧ OAt W.w.params th s.heap (a, d) o := by
  obtain ⟨a, d, h1, h2⟩ := h
  obtain ⟨p, h3, h4⟩ := I.hr.obj e
  rw [h1] at h3; cases h3
  exact ⟨a, d, h2, h1, h4⟩
/-- the use of a rule that hands on a frame and a ledger -/
theorem Inv.ledger (I : Inv W L th ls hp s) : ∃ m, Fr W.h0 L s.heap m ∧ News W.h0 L s.heap (allNews W.h0 L s.heap) ∧ (∀ x v, ls x = some v → ∃ c, m x = some c ∧ VR th v c) ∧
    ∀ h' m' news', Fr W.h0 L h' m' → News W.h0 L h' news' → (∀ p ∈ allNews W.h0 L s.heap, p ∈ news') → ∀ b o, b ≠ L → s.heap.get? b = some o → h'.get? b = some o := by
  obtain ⟨m, F, hm⟩ := I.lo
  exact ⟨m, F, news_all, hm, fun h' m' news' F' N' sub => kept_all I.keep F'.keep N' sub⟩
theorem sizeLine_big : (16777216 : Nat) = sizeLine := rfl
theorem add_refs_ok (I : Inv W L th ls hp s) {i j : Nat} {xs ys : List V} {ca cb : Value} (ha : VR th (.ref i) ca) (hb : VR th (.ref j) cb) (ei : hp[i]? = some (.list xs)) (ej : hp[j]? = some (.list ys)) (z : xs.length + ys.length ≤ 1000000) :
    wpAny (model prog W.w) A (binaryOp .Add ca cb) (Post W L th ls (hp ++ [.list (xs ++ ys)]) (.ref hp.length) s) NoE s := by
  obtain ⟨a, da, rfl, ta, oa⟩ := I.at ei ha
  obtain ⟨b, db, rfl, tb, ob⟩ := I.at ej hb
  obtain ⟨vs, la, ra⟩ := oa.isList
  obtain ⟨us, lb, rb⟩ := ob.isList
  obtain ⟨m, F, N, hm, use⟩ := I.ledger
  refine add_arrays F N la lb (fun h' F' N' => ?_) (by rw [← sizeLine_big]; simp [ra.length, rb.length]; omega)
  exact I.newList (k := s.toks) (n := 0) (vs := vs ++ us) hm F' (use _ _ _ F' N' fun p hp => .tail _ hp) (fresh_size _) (N' _ (.head _)).1 (ra.append rb)
theorem intV_inv {f : Int → Int → Hp → Option (V × Hp)} {a b : V} {r : V × Hp} (e : intV f a b hp = some r) : ∃ x y, a = .int x ∧ b = .int y ∧ f x y hp = some r := by
  unfold intV at e
  split at e
  · exact ⟨_, _, rfl, rfl, e⟩
  · cases e
theorem add_ok (I : Inv W L th ls hp s) {a b v : V} {ca cb : Value} (ha : VR th a ca) (hb : VR th b cb) (e : addV a b hp = some (v, hp')) :
    wpAny (model prog W.w) A (binaryOp .Add ca cb) (Post W L th ls hp' v s) NoE s := by
  unfold addV at e
  split at e
  · cases e; obtain ⟨t, rfl⟩ := ha; obtain ⟨u, rfl⟩ := hb
    exact PyProof.Rows.add_int (I.postT ⟨_, rfl⟩)
  · split at e
    · rename_i z
      cases e; obtain ⟨t, rfl⟩ := ha; obtain ⟨u, rfl⟩ := hb
      refine PySem.W.KBy.add_bytes (by simpa using z) fun t' k => ?_
      exact I.postT ⟨t', by simp⟩
    · cases e
  · split at e
    · rename_i i j xs ys ei ej
      split at e
      · rename_i z
        cases e
        exact add_refs_ok I ha hb ei ej z
      · cases e
    · cases e
  · cases e
theorem bin_ok (R : Rm A d) (I : Inv W L th ls hp s) {op : Operator} {a b v : V} {ca cb : Value} (ha : VR th a ca) (hb : VR th b cb) (e : binV op a b hp = some (v, hp')) :
    wpAny (model prog W.w) A (binaryOp op ca cb) (Post W L th ls hp' v s) NoE s := by
  unfold binV at e
  split at e
  · exact add_ok I ha hb e
  · obtain ⟨x, y, rfl, rfl, q⟩ := intV_inv e
    clear e
    cases q; obtain ⟨t, rfl⟩ := ha; obtain ⟨u, rfl⟩ := hb
    exact PyProof.Rows.sub_int (I.postT ⟨_, rfl⟩)
  · obtain ⟨x, y, rfl, rfl, q⟩ := intV_inv e
    clear e
    split at q
    · rename_i z
      cases q; obtain ⟨t, rfl⟩ := ha; obtain ⟨u, rfl⟩ := hb
      exact PyProof.Rows.mul_int (I.postT ⟨_, rfl⟩) (IntMulOk.of_left (Nat.le_trans (bits_le z.1) (by decide)))
    · cases q
  · obtain ⟨x, y, rfl, rfl, q⟩ := intV_inv e
    clear e
    split at q
    · cases q
    · rename_i z
      have z1 := fun q => z (.inl q)
      have z2 := fun q => z (.inr q)
      cases q; obtain ⟨t, rfl⟩ := ha; obtain ⟨u, rfl⟩ := hb
      exact PyProof.Rows.floordiv_int z1 (I.postT ⟨_, rfl⟩) (.inl (PyProof.noPylong_small (by omega)))
  · obtain ⟨x, y, rfl, rfl, q⟩ := intV_inv e
    clear e
    split at q
    · cases q
    · rename_i z
      cases q; obtain ⟨t, rfl⟩ := ha; obtain ⟨u, rfl⟩ := hb
      exact PyProof.Rows.mod_int' z (I.postT ⟨_, rfl⟩)
  · obtain ⟨x, y, rfl, rfl, q⟩ := intV_inv e
    clear e
    split at q
    · rename_i z
      cases q; obtain ⟨t, rfl⟩ := ha; obtain ⟨u, rfl⟩ := hb
      refine PyProof.Rows.pow_int z.1 ?_ (I.postT ⟨_, rfl⟩)
      have q := bits_le z.2.2
      exact Int.le_trans (Int.mul_le_mul (by exact_mod_cast q) z.2.1 z.1 (by decide)) (by decide : (100 : Int) * 20 ≤ _)
    · cases q
  · cases e
end
end Mine

open PySem PySem.W PyProof.Rows PySem.Calls
set_option Elab.async false
set_option maxRecDepth 100000
set_option maxHeartbeats 1000000
namespace Mine
section
variable {W : Wd} {L : Addr} {th th' : Th} {ls : Ls} {hp hp' : Hp} {s : Shared} {prog : Program} {A : Around} {d : Nat}
theorem ints_any {vs : List Value} {is : List Int} (h : IntsAre vs is) (x : Int) : vs.any (fun y => match y with | .int a _ => a == x | _ => false) = is.contains x := by
  induction h with
  | nil => rfl
  | cons n t _ ih =>
    rw [List.any_cons, ih, List.contains_cons]
    congr 1
    exact Bool.eq_iff_iff.mpr ⟨fun h => by simpa using (by simpa using h : n = x).symm, fun h => by simpa using (by simpa using h : x = n).symm⟩
theorem seq_tup (I : Inv W L th ls hp s) {a : Addr} {is : List Int} (e : seqInts a = some is) : ∃ vs : List Value, s.heap.IsTuple a vs.toArray ∧ IntsAre vs is := by
  have K := I.kin
  unfold seqInts at e
  split at e
  · rename_i q; cases q; cases e
    exact ⟨[(.int (0) 254), (.int (9) 255), (.int (10) 256), (.int (12) 257), (.int (13) 258), (.int (32) 259)], ⟨_, K _ _ (by rfl), rfl, _, rfl⟩, by repeat constructor⟩
  · split at e
    · rename_i q; cases q; cases e
      exact ⟨[(.int (40) 261), (.int (41) 262), (.int (60) 263), (.int (62) 264), (.int (91) 265), (.int (93) 266), (.int (123) 267), (.int (125) 268), (.int (47) 269), (.int (37) 270)], ⟨_, K _ _ (by rfl), rfl, _, rfl⟩, by repeat constructor⟩
    · split at e
      · rename_i q; cases q; cases e
        exact ⟨[(.int (91) 595), (.int (93) 596), (.int (123) 597), (.int (125) 598)], ⟨_, K _ _ (by rfl), rfl, _, rfl⟩, by repeat constructor⟩
      · cases e
theorem ints_mem {vs : List Value} {is : List Int} (h : IntsAre vs is) : ∀ v ∈ vs, ∃ a t, v = .int a t := by
  induction h with
  | nil => intro v h; cases h
  | cons n t _ ih => intro v h; cases h with | head => exact ⟨n, t, rfl⟩ | tail _ h => exact ih v h
theorem in_ints {vs : List Value} {is : List Int} {a : Addr} {x : Int} {t : Tok} {Q : Value → Shared → Prop} (ht : s.heap.IsTuple a vs.toArray) (hi : IntsAre vs is) (h : Q (.bool (is.contains x)) s) :
    wpAny (model prog W.w) A (compareOp .In (.int x t) (.ref a)) Q NoE s := by
  refine SeqAt.in_tupleAt (fun y => match y with | .int a _ => a == x | _ => false) ht (fun y hy => ?_) ?_
  · obtain ⟨b, u, rfl⟩ := ints_mem hi y (by simpa using hy)
    exact SeqAt.EqAt.int_int b u x t
  · rw [List.any_toArray, ints_any hi]; exact h
theorem notIn_ints {vs : List Value} {is : List Int} {a : Addr} {x : Int} {t : Tok} {Q : Value → Shared → Prop} (ht : s.heap.IsTuple a vs.toArray) (hi : IntsAre vs is) (h : Q (.bool (!is.contains x)) s) :
    wpAny (model prog W.w) A (compareOp .NotIn (.int x t) (.ref a)) Q NoE s := by
  refine SeqAt.notIn_tupleAt (fun y => match y with | .int a _ => a == x | _ => false) ht (fun y hy => ?_) ?_
  · obtain ⟨b, u, rfl⟩ := ints_mem hi y (by simpa using hy)
    exact SeqAt.EqAt.int_int b u x t
  · rw [List.any_toArray, ints_any hi]; exact h
theorem eqAt_bytes (b : Array UInt8) (t u : Tok) : SeqAt.EqAt A s (.bytes b t) (.bytes b u) true := by
  by_cases e : t = u
  · subst e; exact SeqAt.EqAt.same _
  · have ne : ((Value.bytes b t) == (Value.bytes b u)) = false := beq_eq_false_iff_ne.mpr fun q => e (Value.bytes.inj q).2
    intro prog w E Q h
    unfold eqBool
    simp only [ne]
    exact wpAny_holding (wpAny_bind (PySem.W.eq_bytes (by rw [beq_self_eq_true]; exact wpAny_truthy_bool h)))
theorem eq_list {n : Nat} {A : Around} {xs ys : List V} {vs us : List Value} {ds : List Dat} (r1 : VRs th xs vs) (r2 : VRs th ys us) (l1 : xs.length = ds.length) (l2 : ys.length = ds.length) (hu : A.units + (n + 1) < cLine)
    (ih : ∀ (k : Nat) x d, xs[k]? = some x → ds[k]? = some d → ∀ (A : Around) (u : V) (cv cu : Value), A.units + n < cLine → RD hp n u d → VR th x cv → VR th u cu → SeqAt.EqAt A s cv cu true)
    (k2 : ∀ (k : Nat) x d, ys[k]? = some x → ds[k]? = some d → RD hp n x d) : ∀ j (h1 : j < vs.toArray.size) (h2 : j < us.toArray.size), SeqAt.EqAt A.in1 s vs.toArray[j] us.toArray[j] true := by
  intro j h1 h2
  have h1' : j < xs.length := by simpa [r1.length] using h1
  have h2' : j < ys.length := by omega
  have h3' : j < ds.length := by omega
  obtain ⟨c1, e1, q1⟩ := r1.get (List.getElem?_eq_getElem h1')
  obtain ⟨c2, e2, q2⟩ := r2.get (List.getElem?_eq_getElem h2')
  have z1 : vs.toArray[j] = c1 := by simpa [List.getElem?_eq_some_iff] using (List.getElem?_eq_some_iff.mp e1).2
  have z2 : us.toArray[j] = c2 := by simpa [List.getElem?_eq_some_iff] using (List.getElem?_eq_some_iff.mp e2).2
  rw [z1, z2]
  exact ih j _ _ (List.getElem?_eq_getElem h1') (List.getElem?_eq_getElem h3') A.in1 _ c1 c2 (by have e : A.in1.units = A.units + 1 := rfl; omega) (k2 j _ _ (List.getElem?_eq_getElem h2') (List.getElem?_eq_getElem h3')) q1 q2
/-- two values that read as the same data are equal -/
theorem eq_deep (I : Inv W L th ls hp s) {n : Nat} {v : V} {d : Dat} (hv : RD hp n v d) : ∀ (A : Around) (u : V) (cv cu : Value), A.units + n < cLine → RD hp n u d → VR th v cv → VR th u cu → SeqAt.EqAt A s cv cu true := by
  induction hv with
  | int n i =>
    intro A u cv cu _ hw hc hd
    cases hw
    obtain ⟨t, rfl⟩ := hc; obtain ⟨t', rfl⟩ := hd
    exact (beq_self_eq_true (_ : Int)) ▸ SeqAt.EqAt.int_int _ t _ t'
  | str n i =>
    intro A u cv cu _ hw hc hd
    cases hw
    obtain ⟨t, rfl⟩ := hc; obtain ⟨t', rfl⟩ := hd
    exact (beq_self_eq_true (_ : Str)) ▸ SeqAt.EqAt.str_str _ t _ t'
  | bytes n i =>
    intro A u cv cu _ hw hc hd
    cases hw
    obtain ⟨t, rfl⟩ := hc; obtain ⟨t', rfl⟩ := hd
    exact eqAt_bytes _ t t'
  | tup n i xs ds e1 l1 _ ih =>
    intro A u cv cu hu hw hc hd
    cases hw with
    | tup _ _ ys _ e2 l2 k2 =>
      obtain ⟨a, da, rfl, ta, oa⟩ := I.at e1 hc
      obtain ⟨b, db, rfl, tb, ob⟩ := I.at e2 hd
      by_cases hab : a = b
      · subst hab; exact SeqAt.EqAt.same _
      · obtain ⟨vs, la, ra⟩ := oa.isTup
        obtain ⟨us, lb, rb⟩ := ob.isTup
        have := SeqAt.RcAt.tuples (e := fun _ => true) la lb (by omega : A.units < cLine) (eq_list ra rb l1 l2 hu ih k2)
        refine SeqAt.EqAt.of_refs hab ?_
        have z : ((List.range (min vs.toArray.size us.toArray.size)).all (fun _ => true) && vs.toArray.size == us.toArray.size) = true := by
          simp [ra.length, rb.length, l1, l2]
        rw [z] at this; exact this
  | lst n i xs ds e1 l1 _ ih =>
    intro A u cv cu hu hw hc hd
    cases hw with
    | lst _ _ ys _ e2 l2 k2 =>
      obtain ⟨a, da, rfl, ta, oa⟩ := I.at e1 hc
      obtain ⟨b, db, rfl, tb, ob⟩ := I.at e2 hd
      by_cases hab : a = b
      · subst hab; exact SeqAt.EqAt.same _
      · obtain ⟨vs, la, ra⟩ := oa.isList
        obtain ⟨us, lb, rb⟩ := ob.isList
        have := SeqAt.RcAt.lists (e := fun _ => true) la lb (by simp [ra.length, rb.length, l1, l2]) (by omega : A.units < cLine) (eq_list ra rb l1 l2 hu ih k2)
        refine SeqAt.EqAt.of_refs hab ?_
        have z : ((List.range vs.toArray.size).all (fun _ => true)) = true := by simp
        rw [z] at this; exact this
theorem cmp_same (R : Rm A d) (I : Inv W L th ls hp s) {i j : Nat} {ca cb : Value} (ha : VR th (.ref i) ca) (hb : VR th (.ref j) cb) (e : Same hp (.ref i) (.ref j)) :
    (∀ {Q : Value → Shared → Prop}, Q (.bool true) s → wpAny (model prog W.w) A (compareOp .Eq ca cb) Q NoE s) ∧ (∀ {Q : Value → Shared → Prop}, Q (.bool false) s → wpAny (model prog W.w) A (compareOp .NotEq ca cb) Q NoE s) := by
  obtain ⟨D, hv, hw⟩ := e
  have hu : A.units + (4 + 1) < cLine := by have := R.un; omega
  cases hv with
  | tup _ _ xs ds e1 l1 k1 =>
    cases hw with
    | tup _ _ ys _ e2 l2 k2 =>
      obtain ⟨a, da, rfl, ta, oa⟩ := I.at e1 ha
      obtain ⟨b, db, rfl, tb, ob⟩ := I.at e2 hb
      obtain ⟨vs, la, ra⟩ := oa.isTup
      obtain ⟨us, lb, rb⟩ := ob.isTup
      have z : ((List.range (min vs.toArray.size us.toArray.size)).all (fun _ => true) && vs.toArray.size == us.toArray.size) = true := by
        simp [ra.length, rb.length, l1, l2]
      have key := eq_list ra rb l1 l2 hu (fun k x d e1 e2 => eq_deep I (k1 k x d e1 e2)) k2
      refine ⟨fun {Q} h => ?_, fun {Q} h => ?_⟩
      · have := SeqAt.RcAt.tuples (e := fun _ => true) la lb (by omega : A.units < cLine) key
        rw [z] at this; exact this prog W.w NoE Q h
      · have := SeqAt.RcNeAt.tuples (e := fun _ => true) la lb (by omega : A.units < cLine) key
        rw [z] at this; exact this prog W.w NoE Q h
  | lst _ _ xs ds e1 l1 k1 =>
    cases hw with
    | lst _ _ ys _ e2 l2 k2 =>
      obtain ⟨a, da, rfl, ta, oa⟩ := I.at e1 ha
      obtain ⟨b, db, rfl, tb, ob⟩ := I.at e2 hb
      obtain ⟨vs, la, ra⟩ := oa.isList
      obtain ⟨us, lb, rb⟩ := ob.isList
      have z : ((List.range vs.toArray.size).all (fun _ => true)) = true := by simp
      have key := eq_list ra rb l1 l2 hu (fun k x d e1 e2 => eq_deep I (k1 k x d e1 e2)) k2
      refine ⟨fun {Q} h => ?_, fun {Q} h => ?_⟩
      · have := SeqAt.RcAt.lists (e := fun _ => true) la lb (by simp [ra.length, rb.length, l1, l2]) (by omega : A.units < cLine) key
        rw [z] at this; exact this prog W.w NoE Q h
      · have := SeqAt.RcNeAt.lists (e := fun _ => true) la lb (by simp [ra.length, rb.length, l1, l2]) (by omega : A.units < cLine) key
        rw [z] at this; exact this prog W.w NoE Q h
theorem ordV_inv {f : Int → Int → Bool} {a b : V} {r : Bool} (e : ordV f a b = some r) : ∃ x y, a = .int x ∧ b = .int y ∧ f x y = r := by
  unfold ordV at e
  split at e
  · exact ⟨_, _, rfl, rfl, Option.some.inj e⟩
  · cases e
theorem eqV_ok (R : Rm A d) (I : Inv W L th ls hp s) {a b : V} {r : Bool} {ca cb : Value} (ha : VR th a ca) (hb : VR th b cb) (e : eqV a b hp = some r) {Q : Value → Shared → Prop} (h : Q (.bool r) s) :
    wpAny (model prog W.w) A (compareOp .Eq ca cb) Q NoE s := by
  unfold eqV at e
  split at e
  · cases e; obtain ⟨t, rfl⟩ := ha; obtain ⟨u, rfl⟩ := hb; exact PyProof.Rows.eq_int h
  · cases e; obtain ⟨t, rfl⟩ := ha; obtain ⟨u, rfl⟩ := hb; exact PyProof.Rows.eq_str h
  · cases e; obtain ⟨t, rfl⟩ := ha; obtain ⟨u, rfl⟩ := hb; exact PySem.W.eq_bytes (by simpa using h)
  · split at e
    · rename_i z; cases e; exact (cmp_same R I ha hb z).1 h
    · cases e
  · cases e
theorem neV_ok (R : Rm A d) (I : Inv W L th ls hp s) {a b : V} {r : Bool} {ca cb : Value} (ha : VR th a ca) (hb : VR th b cb) (e : neV a b hp = some r) {Q : Value → Shared → Prop} (h : Q (.bool r) s) :
    wpAny (model prog W.w) A (compareOp .NotEq ca cb) Q NoE s := by
  unfold neV at e
  split at e
  · cases e; obtain ⟨t, rfl⟩ := ha; obtain ⟨u, rfl⟩ := hb; exact PyProof.Rows.ne_int h
  · cases e; obtain ⟨t, rfl⟩ := ha; obtain ⟨u, rfl⟩ := hb; exact PyProof.Rows.ne_str h
  · split at e
    · rename_i z; cases e; exact (cmp_same R I ha hb z).2 h
    · cases e
  · cases e
theorem niV_ok (I : Inv W L th ls hp s) {a b : V} {r : Bool} {ca cb : Value} (ha : VR th a ca) (hb : VR th b cb) (e : niV a b hp = some r) {Q : Value → Shared → Prop} (h : Q (.bool r) s) :
    wpAny (model prog W.w) A (compareOp .NotIn ca cb) Q NoE s := by
  unfold niV at e
  split at e
  · obtain ⟨is, e1, e2⟩ := Option.map_eq_some_iff.mp e
    obtain ⟨t, rfl⟩ := ha; cases hb
    obtain ⟨vs, x, y⟩ := seq_tup I e1
    exact notIn_ints x y (by rw [e2]; exact h)
  · split at e
    · rename_i x y ei
      cases e
      obtain ⟨t, rfl⟩ := ha
      obtain ⟨b, db, rfl, tb, ob⟩ := I.at ei hb
      obtain ⟨us, lb, rb⟩ := ob.isTup
      obtain ⟨c1, c2, rfl, ⟨t1, rfl⟩, ⟨t2, rfl⟩⟩ := vrs2 rb
      exact notIn_ints lb (.cons _ _ (.cons _ _ .nil)) (by simpa only [List.contains_cons, List.contains_nil, Bool.or_false] using h)
    · cases e
  · cases e
theorem isV_ok (I : Inv W L th ls hp s) {a b : V} {r : Bool} {ca cb : Value} (ha : VR th a ca) (hb : VR th b cb) (e : isV a b = some r) {Q : Value → Shared → Prop} (h : Q (.bool r) s) :
    wpAny (model prog W.w) A (compareOp .Is ca cb) Q NoE s := by
  unfold isV at e
  split at e
  · cases e; cases ha; cases hb; exact is_none_none h
  · cases e; obtain ⟨t, rfl⟩ := ha; cases hb; exact is_int_none h
  · cases e; obtain ⟨a, da, _, rfl⟩ := ha; cases hb; exact is_ref_none h
  · cases e
theorem inV_inv {a b : V} {r : Bool} (e : inV a b = some r) : ∃ x q is, a = .int x ∧ b = .seq q ∧ seqInts q = some is ∧ is.contains x = r := by
  unfold inV at e
  split at e
  · obtain ⟨is, e1, e2⟩ := Option.map_eq_some_iff.mp e
    exact ⟨_, _, is, rfl, rfl, e1, e2⟩
  · cases e
theorem cmp_ok (R : Rm A d) (I : Inv W L th ls hp s) {op : CmpOp} {a b : V} {r : Bool} {ca cb : Value} (ha : VR th a ca) (hb : VR th b cb) (e : cmpV op a b hp = some r) {Q : Value → Shared → Prop} (h : Q (.bool r) s) :
    wpAny (model prog W.w) A (compareOp op ca cb) Q NoE s := by
  unfold cmpV at e
  split at e
  · exact eqV_ok R I ha hb e h
  · exact neV_ok R I ha hb e h
  · obtain ⟨x, y, rfl, rfl, rfl⟩ := ordV_inv e; obtain ⟨t, rfl⟩ := ha; obtain ⟨u, rfl⟩ := hb; exact PyProof.Rows.lt_int h
  · obtain ⟨x, y, rfl, rfl, rfl⟩ := ordV_inv e; obtain ⟨t, rfl⟩ := ha; obtain ⟨u, rfl⟩ := hb; exact PyProof.Rows.le_int h
  · obtain ⟨x, y, rfl, rfl, rfl⟩ := ordV_inv e; obtain ⟨t, rfl⟩ := ha; obtain ⟨u, rfl⟩ := hb; exact PyProof.Rows.gt_int h
  · obtain ⟨x, y, rfl, rfl, rfl⟩ := ordV_inv e; obtain ⟨t, rfl⟩ := ha; obtain ⟨u, rfl⟩ := hb; exact PyProof.Rows.ge_int h
  · obtain ⟨x, q, is, rfl, rfl, e1, e2⟩ := inV_inv e
    obtain ⟨t, rfl⟩ := ha; cases hb
    obtain ⟨vs, x, y⟩ := seq_tup I e1
    exact in_ints x y (by rw [e2]; exact h)
  · exact niV_ok I ha hb e h
  · exact isV_ok I ha hb e h
  · cases e
theorem neg_ok (I : Inv W L th ls hp s) {a v : V} {ca : Value} (ha : VR th a ca) (e : negV a hp = some (v, hp')) : wpAny (model prog W.w) A (unaryOp .USub ca) (Post W L th ls hp' v s) NoE s := by
  unfold negV at e
  split at e
  · cases e; obtain ⟨t, rfl⟩ := ha; exact PyProof.Rows.neg_int (I.postT ⟨_, rfl⟩)
  · cases e
end
end Mine

open PySem PySem.W PyProof.Rows PySem.Calls
set_option Elab.async false
set_option maxRecDepth 100000
set_option maxHeartbeats 1000000
namespace Mine
structure AttrFacts (K : Frag) (C : Addr) (a : Str) : Prop where
  pg : plainGet K C a = true
  hd : hasDictIn K C = true
  fi : findIn K (.ref C) a = some none
  st : findIn K (.ref C) "__setattr__" = some (some (.builtin "object.__setattr__"))
  po : plainOver K C = true
  tk : takerIn K C a = some none
theorem attr_facts {P : Params} {C : Addr} {a : Str} (h : attrOk C a) : AttrFacts (KK P) C a := by
  rcases h with ⟨rfl, rfl | rfl | rfl⟩ | ⟨rfl, rfl | rfl⟩ <;> exact ⟨by kernel_rfl, by kernel_rfl, by kernel_rfl, by kernel_rfl, by kernel_rfl, by kernel_rfl⟩
section
variable {W : Wd} {L : Addr} {th th' : Th} {ls : Ls} {hp hp' : Hp} {s : Shared} {prog : Program} {A : Around} {d : Nat} {P : Params}
theorem isStr_str (x y : Str) (t : Tok) : (Value.str x t).isStr y = decide (x = y) := by
  show (x == y) = decide (x = y)
  rw [Bool.eq_iff_iff]; simp
theorem fr_get {x : Str} {v : V} : ∀ {fs : List (Str × V)} {es : List DictEntry}, FRs P th fs es → fget fs x = some v → ∃ c, getL x es = some (some c) ∧ VR th v c
  | [], [], _, e => by cases e
  | (n, u) :: fs, e :: es, ⟨⟨t, c, q, r⟩, h⟩, z => by
      subst q
      unfold fget at z
      unfold getL
      rw [List.find?_cons, List.any_cons]
      simp only [isStr_str]
      by_cases hn : n = x
      · rw [if_pos hn] at z; cases z
        exact ⟨c, by simp [hn], r⟩
      · rw [if_neg hn] at z
        obtain ⟨c', q', r'⟩ := fr_get h z
        refine ⟨c', ?_, r'⟩
        unfold getL at q'
        simpa [hn, DictEntry.refKey] using q'
  | [], _ :: _, h, _ => h.elim
  | _ :: _, [], h, _ => h.elim
theorem fr_none {x : Str} : ∀ {fs : List (Str × V)} {es : List DictEntry}, FRs P th fs es → (getL x es).isSome = true
  | [], [], _ => rfl
  | (n, u) :: fs, e :: es, ⟨⟨t, c, q, r⟩, h⟩ => by
      subst q
      have := fr_none (x := x) h
      unfold getL at this ⊢
      rw [List.find?_cons, List.any_cons]
      simp only [isStr_str]
      by_cases hn : n = x
      · simp [hn]
      · simpa [hn, DictEntry.refKey] using this
  | [], _ :: _, h => h.elim
  | _ :: _, [], h => h.elim
theorem fr_put {x : Str} {v : V} {c : Value} {t : Tok} (hv : VR th v c) : ∀ {fs : List (Str × V)} {es : List DictEntry}, FRs P th fs es → FRs P th (fput fs x v) (putL x (PyData.keyHash P x) (.str x t) c es)
  | [], [], _ => ⟨⟨t, c, rfl, hv⟩, trivial⟩
  | (n, u) :: fs, e :: es, ⟨⟨t', c', q, r⟩, h⟩ => by
      subst q
      unfold fput putL
      simp only [isStr_str]
      by_cases hn : n = x
      · simp only [hn, if_true, decide_true]
        exact ⟨⟨t', c, rfl, hv⟩, h⟩
      · simp only [hn, if_false, decide_false, Bool.false_eq_true]
        exact ⟨⟨t', c', rfl, r⟩, fr_put hv h⟩
  | [], _ :: _, h => h.elim
  | _ :: _, [], h => h.elim
theorem fr_len : ∀ {fs : List (Str × V)} {es : List DictEntry}, FRs P th fs es → es.length = fs.length
  | [], [], _ => rfl
  | _ :: _, _ :: _, h => by simp [fr_len h.2]
  | [], _ :: _, h => h.elim
  | _ :: _, [], h => h.elim
theorem putL_len {x : Str} {hh : Int} {k v : Value} : ∀ es : List DictEntry, (putL x hh k v es).length ≤ es.length + 1
  | [] => by simp [putL]
  | e :: es => by
      unfold putL
      split
      · simp
      · have := putL_len (x := x) (hh := hh) (k := k) (v := v) es; simp; omega
theorem vr_handed {v : V} {c : Value} (h : VR th v c) : handedIn c = true := by
  cases v with
  | none => cases h; rfl
  | bool b => cases h; rfl
  | int i => obtain ⟨t, rfl⟩ := h; rfl
  | str i => obtain ⟨t, rfl⟩ := h; rfl
  | bytes i => obtain ⟨t, rfl⟩ := h; rfl
  | ref i => obtain ⟨a, d, _, rfl⟩ := h; rfl
  | fn a => cases h; rfl
  | seq a => cases h; rfl
  | scr a => cases h; rfl
  | bi b => cases h; cases b <;> first | rfl | decide +kernel
theorem OAt.inst {h : Heap} {p : Addr × Option Addr} {C : Addr} {fs : List (Str × V)} (o : OAt P th h p (.inst C fs)) :
    ∃ dx es k, p.2 = some dx ∧ InstAt h p.1 (instObj C dx) C (some (dictOf es k)) ∧ h.get? dx = some (dictOf es k) ∧ FRs P th fs es := by
  obtain ⟨dx, es, k, e, g, g2, r⟩ := o
  exact ⟨dx, es, k, e, ⟨g, rfl, rfl, g2⟩, g2, r⟩
theorem attr_ok (I : Inv W L th ls hp s) {a : Str} {b v : V} {cb : Value} {ex : Bool} (hb : VR th b cb) (e : attrV a b hp = some (v, hp')) : wpAny (model prog W.w) A (getAttr cb a ex) (Post W L th ls hp' v s) NoE s := by
  unfold attrV at e
  split at e
  · split at e
    · rename_i i C fs ei
      split at e
      · rename_i hok
        split at e
        · rename_i u ef
          cases e
          obtain ⟨x, dx, rfl, tx, ox⟩ := I.at ei hb
          obtain ⟨dx, es, k, e1, J, g, r⟩ := ox.inst
          obtain ⟨c, q1, q2⟩ := fr_get r ef
          obtain ⟨m, F, _⟩ := I.lo
          have f := attr_facts (P := W.w.params) hok
          exact get_own F W.kin J f.pg f.hd f.fi rfl q1 (vr_handed q2) (I.postT q2)
        · cases e
      · cases e
    · cases e
  · cases e
/-- what a store leaves -/
def PostU (W : Wd) (L : Addr) (th : Th) (ls : Ls) (hp' : Hp) (s : Shared) : Unit → Shared → Prop := fun _ s' => ∃ th', Inv W L th' ls hp' s' ∧ Go L th s.heap th' s'.heap
theorem upd_one {L dx : Addr} {o o' : Obj} {h : Heap} {h0 : Heap} (g : h.get? dx = some o) (n1 : dx ≠ L) (n2 : h0.get? dx = none) : ∃ news', Upd dx o o' (allNews h0 L h) news' ∧ ∀ p ∈ allNews h0 L h, p.1 ≠ dx → p ∈ news' := by
  have key : ∀ (l : List (Addr × Obj)), (l.map (·.1)).Nodup → (dx, o) ∈ l → ∃ l', Upd dx o o' l l' ∧ ∀ p ∈ l, p.1 ≠ dx → p ∈ l' := by
    intro l
    induction l with
    | nil => intro _ h; cases h
    | cons q r ih =>
      intro nd hm
      rw [List.map_cons, List.nodup_cons] at nd
      rcases List.mem_cons.mp hm with e | hm'
      · subst e
        refine ⟨(dx, o') :: r, .head fun p hp e => nd.1 (List.mem_map.mpr ⟨p, hp, e⟩), fun p hp hne => ?_⟩
        rcases List.mem_cons.mp hp with e | hp
        · subst e; exact absurd rfl hne
        · exact .tail _ hp
      · obtain ⟨l', u, k⟩ := ih nd.2 hm'
        have hq : q.1 ≠ dx := fun e => nd.1 (e ▸ List.mem_map_of_mem (f := (·.1)) hm')
        refine ⟨q :: l', .tail hq u, fun p hp hne => ?_⟩
        rcases List.mem_cons.mp hp with e | hp
        · subst e; exact .head _
        · exact .tail _ (k p hp hne)
  refine key _ ?_ (mem_all.mpr ⟨g, n1, n2⟩)
  unfold allNews
  have : ∀ (l : List Nat), l.Nodup → ((l.filterMap fun a => match h.get? a with
      | some o => if a ≠ L ∧ h0.get? a = none then some (a, o) else none
      | none => none).map (·.1)).Nodup ∧ ∀ a ∈ (l.filterMap fun a => match h.get? a with
      | some o => if a ≠ L ∧ h0.get? a = none then some (a, o) else none
      | none => none).map (·.1), a ∈ l := by
    intro l
    induction l with
    | nil => intro _; exact ⟨.nil, fun _ h => by cases h⟩
    | cons x r ih =>
      intro nd
      rw [List.nodup_cons] at nd
      obtain ⟨i1, i2⟩ := ih nd.2
      rw [List.filterMap_cons]
      split
      · exact ⟨i1, fun a ha => .tail _ (i2 a ha)⟩
      · rename_i b eb
        have hb : b.1 = x := by
          split at eb
          · split at eb
            · cases eb; rfl
            · cases eb
          · cases eb
        refine ⟨?_, fun a ha => ?_⟩
        · rw [List.map_cons, List.nodup_cons]
          exact ⟨fun z => nd.1 (i2 _ (hb ▸ z)), i1⟩
        · rw [List.map_cons] at ha
          rcases List.mem_cons.mp ha with e | ha
          · rw [e, hb]; exact .head _
          · exact .tail _ (i2 a ha)
  exact (this _ List.nodup_range).1
theorem Upd.mem {dx : Addr} {o o' : Obj} : ∀ {l l' : List (Addr × Obj)}, Upd dx o o' l l' → (dx, o') ∈ l'
  | _, _, .head _ => .head _
  | _, _, .tail _ u => .tail _ (Upd.mem u)
theorem setAttr_ok (I : Inv W L th ls hp s) {a : Str} {i : Nat} {C : Addr} {fs : List (Str × V)} {v : V} {cb cv : Value} (hb : VR th (.ref i) cb) (hv : VR th v cv) (ei : hp[i]? = some (.inst C fs)) (hok : attrOk C a) (hz : fs.length ≤ 10) :
    wpAny (model prog W.w) A (setAttr cb a cv) (PostU W L th ls (hp.set i (.inst C (fput fs a v))) s) NoE s := by
  obtain ⟨x, dxo, rfl, tx, ox⟩ := I.at ei hb
  have ox' := ox
  obtain ⟨dx, es, k, e1, J, g, r⟩ := ox.inst
  cases e1
  obtain ⟨m, F, hm⟩ := I.lo
  have f := attr_facts (P := W.w.params) hok
  have mA : dx ∈ AS th := mem_AS2 tx
  have nL : dx ≠ L := fun e => I.off (e ▸ mA)
  have n0 : W.h0.get? dx = none := I.hr.off dx mA
  obtain ⟨news', U, sub⟩ := upd_one (o' := dictOf (putL a (PyData.keyHash W.w.params a) (.str a (s.toks + 1)) cv es) (putN a es k)) g nL n0
  refine set_dict F W.kin news_all J rfl f.st f.po f.tk f.hd (fr_none r) rfl U ?_ fun h' F' N' => ?_
  · have := putL_len (x := a) (hh := PyData.keyHash W.w.params a) (k := .str a (s.toks + 1)) (v := cv) es
    have := fr_len r
    omega
  · have hk : ∀ b o, b ≠ dx → s.heap.get? b = some o → h'.get? b = some o ∨ b = L := fun b o hb e => by
      by_cases q : b = L
      · exact .inr q
      · left
        cases z : W.h0.get? b with
        | some o' => have := I.keep b o' z; rw [this] at e; cases e; exact F'.keep b _ z
        | none => exact (N' _ (sub (b, o) (mem_all.mpr ⟨e, q, z⟩) hb)).1
    have gd : h'.get? dx = some (dictOf (putL a (PyData.keyHash W.w.params a) (.str a (s.toks + 1)) cv es) (putN a es k)) := (N' _ (Upd.mem U)).1
    have gx : h'.get? x = some (instObj C dx) := by
      have hx : x ≠ dx := by
        intro q
        have nd := I.hr.nd
        have hi := List.mem_of_getElem? tx
        have : (A1 (x, some dx)).Nodup := by
          obtain ⟨l1, l2, el⟩ := List.append_of_mem hi
          rw [el, AS_append] at nd
          have e2 : AS ((x, some dx) :: l2) = A1 (x, some dx) ++ AS l2 := by simp [AS]
          rw [e2] at nd
          exact (List.nodup_append.mp (List.nodup_append.mp nd).2.1).1
        simp [A1, q] at this
      rcases hk x _ hx J.at_ with q | q
      · exact q
      · exact absurd (mem_AS tx) (q ▸ I.off)
    -- the heap with the old frame dict: turn
    have hr' : HR W.w.params W.h0 th (hp.set i (.inst C (fput fs a v))) h' ∧ Go L th s.heap th h' := by
      have ndx : ∀ b ∈ AS th, b ≠ L := fun b hb e => I.off (e ▸ hb)
      refine ⟨⟨by rw [List.length_set]; exact I.hr.len, fun j q o hq ho => ?_, I.hr.nd, I.hr.off, F'.keep⟩, ⟨List.prefix_refl _, fun b o hb hL e => (hk b o (fun q => hb (q ▸ mA)) e).resolve_right hL, fun _ h => .inl h, fun b o e => ?_⟩⟩
      · by_cases hij : i = j
        · subst hij
          rw [tx] at hq; cases hq
          have hi := (List.getElem?_eq_some_iff.mp tx).1
          rw [List.getElem?_set_self (by rw [← I.hr.len]; exact hi)] at ho
          cases ho
          exact ⟨dx, _, _, rfl, gx, gd, fr_put hv r⟩
        · rw [List.getElem?_set_ne hij] at ho
          refine (I.hr.at_ j q o hq ho).move (List.prefix_refl _) fun b hb' ob e => ?_
          have hb2 : b ∈ AS th := List.mem_flatMap.mpr ⟨q, List.mem_of_getElem? hq, hb'⟩
          exact (hk b ob (fun z => AS_apart I.hr.nd tx hq hij (by rw [z] at *; simp [A1]) (z ▸ hb')) e).resolve_right (ndx b hb2)
      · by_cases q : b = dx
        · subst q; exact ⟨_, gd⟩
        · rcases hk b o q e with z | z
          · exact ⟨_, z⟩
          · subst z; obtain ⟨o, _, _, g, _⟩ := F'.ns; exact ⟨o, g⟩
    exact ⟨th, ⟨hr'.1, ⟨m, F', hm⟩, I.off, I.gens, I.os⟩, hr'.2⟩
end
end Mine

open PySem PySem.W PyProof.Rows PySem.Calls
set_option Elab.async false
set_option maxRecDepth 100000
set_option maxHeartbeats 1000000
namespace Mine
section
variable {W : Wd} {L : Addr} {th th' : Th} {ls : Ls} {hp hp' : Hp} {s : Shared} {prog : Program} {A : Around} {d : Nat}
def BytesAre : List Value → List (List UInt8) → Prop
  | [], [] => True
  | v :: vs, b :: bs => (∃ t, v = .bytes b.toArray t) ∧ BytesAre vs bs
  | _, _ => False
theorem bytesAre_get : ∀ {vs : List Value} {bs : List (List UInt8)} {i : Nat} {b : List UInt8}, BytesAre vs bs → bs[i]? = some b → ∃ t, vs[i]? = some (.bytes b.toArray t)
  | [], [], _, _, _, e => by simp at e
  | _ :: _, _ :: _, 0, _, h, e => by simp at e; subst e; obtain ⟨t, q⟩ := h.1; exact ⟨t, by simp [q]⟩
  | _ :: _, _ :: _, i + 1, _, h, e => by obtain ⟨t, q⟩ := bytesAre_get h.2 (by simpa using e); exact ⟨t, by simpa using q⟩
  | [], _ :: _, _, _, h, _ => h.elim
  | _ :: _, [], _, _, h, _ => h.elim
theorem pieces_list (I : Inv W L th ls hp s) : ∃ vs : List Value, s.heap.IsList 381 vs.toArray ∧ BytesAre vs pieces :=
  ⟨[(.bytes #[49, 50] 703), (.bytes #[45, 51, 46, 53] 704), (.bytes #[47, 78, 97, 109, 101] 705), (.bytes #[47, 65, 35, 52, 50] 706), (.bytes #[47] 707), (.bytes #[40, 97, 40, 98, 41, 92, 41, 41] 708), (.bytes #[40, 92, 49, 48, 49, 92, 10, 41] 709), (.bytes #[60, 52, 97, 62] 710), (.bytes #[60, 52, 32, 49, 10, 62] 711), (.bytes #[60, 60] 712), (.bytes #[62, 62] 713), (.bytes #[91] 714), (.bytes #[93] 715), (.bytes #[123] 716), (.bytes #[125] 717), (.bytes #[116, 114, 117, 101] 718), (.bytes #[111, 98, 106] 719), (.bytes #[82] 720), (.bytes #[37, 120, 10] 721), (.bytes #[37, 41, 32, 60, 13] 722), (.bytes #[32] 723), (.bytes #[120, 233] 724), (.bytes #[43, 46, 53] 725), (.bytes #[52, 46] 726)],
    ⟨_, I.kin _ _ (by rfl), rfl, _, rfl⟩, ⟨⟨_, rfl⟩, ⟨_, rfl⟩, ⟨_, rfl⟩, ⟨_, rfl⟩, ⟨_, rfl⟩, ⟨_, rfl⟩, ⟨_, rfl⟩, ⟨_, rfl⟩, ⟨_, rfl⟩, ⟨_, rfl⟩, ⟨_, rfl⟩, ⟨_, rfl⟩, ⟨_, rfl⟩, ⟨_, rfl⟩, ⟨_, rfl⟩, ⟨_, rfl⟩, ⟨_, rfl⟩, ⟨_, rfl⟩, ⟨_, rfl⟩, ⟨_, rfl⟩, ⟨_, rfl⟩, ⟨_, rfl⟩, ⟨_, rfl⟩, ⟨_, rfl⟩, trivial⟩⟩
theorem idx_ok (I : Inv W L th ls hp s) {a b v : V} {ca cb : Value} (ha : VR th a ca) (hb : VR th b cb) (e : idxV a b hp = some (v, hp')) {value slice : PySem.Expr} (hs : ∀ o i, ∃ ops, subscripted slice false o i = operate ops (getItem o i)) :
    wpAny (model prog W.w) A (subscriptTail value slice ca cb) (Post W L th ls hp' v s) NoE s := by
  unfold idxV at e
  split at e
  · split at e
    · rename_i z
      cases e; obtain ⟨t, rfl⟩ := ha; obtain ⟨u, rfl⟩ := hb
      obtain ⟨ops, hs⟩ := hs (.bytes _ t) (.int _ u)
      exact tail_any (typeIs_bytes _ _ _) FB.slot_bytes_getitem.lookup (PySem.W.getItem_bytes (by omega) z.1 z.2.1 (I.postT ⟨_, rfl⟩)) hs
    · cases e
  · split at e
    · rename_i z
      obtain ⟨u, rfl⟩ := hb
      split at e
      · rename_i xs ei
        split at e
        · rename_i x ex
          cases e
          obtain ⟨a, da, rfl, ta, oa⟩ := I.at ei ha
          obtain ⟨vs, la, ra⟩ := oa.isList
          obtain ⟨c, q1, q2⟩ := ra.get ex
          obtain ⟨ops, hs⟩ := hs (.ref a) (.int _ u)
          exact tail_any la.typeIs slot_list_getitem.lookup (wpAny_getItem_list la z.1 (by omega) (by simpa using q1) (I.post q2)) hs
        · cases e
      · rename_i xs ei
        split at e
        · rename_i x ex
          cases e
          obtain ⟨a, da, rfl, ta, oa⟩ := I.at ei ha
          obtain ⟨vs, la, ra⟩ := oa.isTup
          obtain ⟨c, q1, q2⟩ := ra.get ex
          obtain ⟨ops, hs⟩ := hs (.ref a) (.int _ u)
          refine tail_any la.typeIs slot_tuple_getitem.lookup (getItem_tuple la (by omega) (by omega) (j := Int.toNat _) ?_ (by simpa using q1) (I.post q2)) hs
          have hlt := (List.getElem?_eq_some_iff.mp ex).1
          have hn : ¬ (_ : Int) < 0 := Int.not_lt.mpr z.1
          have hl := ra.length
          simp only [seqIndex?, hn, if_false]
          rw [if_pos]
          simp; omega
        · cases e
      · cases e
    · cases e
  · split at e
    · rename_i z
      split at e
      · rename_i b eb
        cases e
        obtain ⟨u, rfl⟩ := hb
        cases ha
        obtain ⟨rfl, z0⟩ := z
        obtain ⟨vs, la, ra⟩ := pieces_list I
        obtain ⟨t, q⟩ := bytesAre_get ra eb
        have hlt : Int.toNat _ < 24 := (List.getElem?_eq_some_iff.mp eb).1
        obtain ⟨ops, hs⟩ := hs (.ref 381) (.int _ u)
        exact tail_any la.typeIs slot_list_getitem.lookup (wpAny_getItem_list la z0 (by omega) (by simpa using q) (I.post ⟨t, rfl⟩)) hs
      · cases e
    · cases e
  · cases e
/-- a bound as the slice holds it -/
def BR : Option V → Value → Prop
  | none, c => c = .none
  | some v, c => ∃ i t, v = .int i ∧ c = .int i t
theorem low_part {l : Option V} {c : Value} {k n : Nat} (h : BR l c) (e : lowOf l = some k) : ∃ lo, IsPart c lo ∧ lo.elim 0 (clipAt n) = min k n := by
  cases l with
  | none => cases h; simp [lowOf] at e; subst e; exact ⟨none, .none, by simp⟩
  | some v =>
    obtain ⟨i, t, rfl, rfl⟩ := h
    simp only [lowOf] at e
    split at e
    · rename_i z
      cases e
      refine ⟨some i, .int i t, ?_⟩
      have := clipAt_nat n i.toNat
      rw [Int.toNat_of_nonneg z.1] at this
      exact this
    · cases e
theorem hi_part {l : Option V} {c : Value} {k n : Nat} (h : BR l c) (e : hiOf n l = some k) : ∃ lo, IsPart c lo ∧ lo.elim n (clipAt n) = min k n := by
  cases l with
  | none => cases h; simp [hiOf] at e; subst e; exact ⟨none, .none, by simp⟩
  | some v =>
    obtain ⟨i, t, rfl, rfl⟩ := h
    simp only [hiOf] at e
    split at e
    · rename_i z
      cases e
      refine ⟨some i, .int i t, ?_⟩
      have := clipAt_nat n i.toNat
      rw [Int.toNat_of_nonneg z.1] at this
      exact this
    · cases e
theorem cut_eq {α : Type} (xs : List α) (a b : Nat) : (xs.drop (min a xs.length)).take (min b xs.length - min a xs.length) = (xs.take b).drop a := by
  rw [List.drop_take]
  by_cases h : a ≤ xs.length
  · rw [Nat.min_eq_left h]
    by_cases h2 : b ≤ xs.length
    · rw [Nat.min_eq_left h2]
    · rw [Nat.min_eq_right (by omega : xs.length ≤ b), List.take_of_length_le (by simp), List.take_of_length_le (by simp; omega)]
  · rw [Nat.min_eq_right (by omega : xs.length ≤ a), List.drop_length, List.drop_of_length_le (by omega)]
    simp
theorem pick_cut (vs : List Value) {lo hi : Option Int} {a b : Nat} (h1 : lo.elim 0 (clipAt vs.length) = min a vs.length) (h2 : hi.elim vs.length (clipAt vs.length) = min b vs.length) :
    slicePick vs.toArray lo hi none = ((vs.take b).drop a).toArray := by
  rw [slicePick_plain]
  simp only [List.size_toArray]
  rw [h1, h2]
  rw [← cut_eq]
theorem slice_push (I : Inv W L th ls hp s) (l u : Value) : Inv W L th ls hp { s with heap := s.heap.push { cls := .type "slice", data := .fields #[l, u, .none] } } ∧ Go L th s.heap th (s.heap.push { cls := .type "slice", data := .fields #[l, u, .none] }) :=
  I.kept (k := s.toks) fun b o e => Heap.get?_push_of_some _ e
theorem ints_are_vrs : ∀ {vs : List Value} {is : List Int}, IntsAre vs is → VRs th (is.map .int) vs
  | _, _, .nil => trivial
  | _, _, .cons n t h => ⟨⟨t, rfl⟩, ints_are_vrs h⟩
/-- a cut of a list, its slice object just made -/
theorem cutList_ok (I : Inv W L th ls hp s) {a : Addr} {vs : List Value} {xs : List V} {k1 k2 : Nat} {cl cu : Value} {lo hi : Option Int} (la : s.heap.IsList a vs.toArray) (ra : VRs th xs vs) (z : xs.length ≤ 1000000)
    (p1 : IsPart cl lo) (p2 : IsPart cu hi) (q1 : lo.elim 0 (clipAt xs.length) = min k1 xs.length) (q2 : hi.elim xs.length (clipAt xs.length) = min k2 xs.length) {value : PySem.Expr} {x y : Option PySem.Expr} {p : Pos} :
    wpAny (model prog W.w) A (subscriptTail value (.Slice x y none p) (.ref a) (.ref s.heap.objs.size)) (Post W L th ls (hp ++ [.list ((xs.take k2).drop k1)]) (.ref hp.length) s) NoE { s with heap := s.heap.push { cls := .type "slice", data := .fields #[cl, cu, .none] } } := by
  have zl := ra.length
  refine tail_any (la.push _).typeIs slot_list_getitem.lookup (wpAny_getItem_list_slice (la.push _) (Heap.IsSliceOf.new _ _ _ _) p1 p2 .none (by decide) ?_ (by rw [← sizeLine_big]; simp; omega)) rfl
  rw [pick_cut vs (a := k1) (b := k2) (by rw [zl]; exact q1) (by rw [zl]; exact q2)]
  obtain ⟨m, F, hm⟩ := I.lo
  refine I.newList (k := s.toks) (n := 0) (vs := (vs.take k2).drop k1) (h' := (s.heap.push { cls := .type "slice", data := .fields #[cl, cu, .none] }).push _) hm ((F.push _).push _) (fun b o _ e => Heap.get?_push_of_some _ (Heap.get?_push_of_some _ e)) ?_ (Heap.get?_push_size _ rfl) ((ra.take k2).drop k1)
  cases e : s.heap.get? (s.heap.push { cls := .type "slice", data := .fields #[cl, cu, .none] }).objs.size with
  | none => rfl
  | some o => have h1 := Heap.lt_size e; rw [Heap.size_push] at h1; exact absurd (Nat.lt_trans (Nat.lt_succ_self _) h1) (Nat.lt_irrefl _)
theorem cut_ok (I : Inv W L th ls hp s) {a v : V} {l u : Option V} {ca cl cu : Value} (ha : VR th a ca) (hl : BR l cl) (hu : BR u cu) (e : cutV W.sc a l u hp = some (v, hp')) {value : PySem.Expr} {x y : Option PySem.Expr} {p : Pos} :
    wpAny (model prog W.w) A (subscriptTail value (.Slice x y none p) ca (.ref s.heap.objs.size)) (Post W L th ls hp' v s) NoE { s with heap := s.heap.push { cls := .type "slice", data := .fields #[cl, cu, .none] } } := by
  obtain ⟨I1, g1⟩ := slice_push I cl cu
  unfold cutV at e
  split at e
  · split at e
    · rename_i k1 k2 e1 e2
      split at e
      · rename_i z
        cases e
        obtain ⟨t, rfl⟩ := ha
        obtain ⟨lo, p1, q1⟩ := low_part (n := List.length _) hl e1
        obtain ⟨hi, p2, q2⟩ := hi_part hu e2
        refine tail_any (typeIs_bytes _ _ _) FB.slot_bytes_getitem.lookup (PySem.getItem_meets (typeIs_bytes _ _ _) (by decide) FB.slot_bytes_getitem FB.entry_bytes_getitem (FB.args_bytes_getitem_2 _ _) (KBc.meets_slice2 _ t _ p1 p2)
          ⟨Heap.IsSliceOf.new _ _ _ _, Nat.le_trans (KBc.size_picked_le _ lo hi) (by rw [← sizeLine_big]; simp; omega), fun t' k => ?_⟩) rfl
        refine Post.trans g1 (I1.postT (k := k) ⟨t', ?_⟩)
        rw [KBc.picked_eq]
        simp only [List.size_toArray]
        rw [q1, q2, cut_eq]
      · cases e
    · cases e
  · split at e
    · rename_i xs ei
      split at e
      · rename_i k1 k2 e1 e2
        split at e
        · rename_i z
          cases e
          obtain ⟨lo, p1, q1⟩ := low_part (n := xs.length) hl e1
          obtain ⟨hi, p2, q2⟩ := hi_part hu e2
          obtain ⟨a, da, rfl, ta, oa⟩ := I.at ei ha
          obtain ⟨vs, la, ra⟩ := oa.isList
          exact cutList_ok I la ra z p1 p2 q1 q2
        · cases e
      · cases e
    · cases e
  · split at e
    · rename_i z
      cases e
      subst z
      cases ha
      obtain ⟨vs, la, ri⟩ := W.scl
      have la' : s.heap.IsList W.sc.1 vs.toArray := let ⟨o, g, r⟩ := la; ⟨o, I.keep _ _ g, r⟩
      have hn := W.scn
      obtain ⟨lo, p1, q1⟩ := low_part (n := (W.sc.2.map V.int).length) (k := 0) hl rfl
      obtain ⟨hi, p2, q2⟩ := hi_part (n := (W.sc.2.map V.int).length) (k := 40) hu rfl
      have h := cutList_ok (prog := prog) (A := A) (value := value) (x := x) (y := y) (p := p) I la' (ints_are_vrs ri) (by rw [List.length_map]; omega) p1 p2 q1 q2
      rw [List.drop_zero, ← List.map_take] at h
      exact h
    · cases e
  · cases e
theorem tr_ok (I : Inv W L th ls hp s) {a : V} {r : Bool} {ca : Value} (ha : VR th a ca) (e : trV a hp = some r) {Q : Bool → Shared → Prop} (h : ∀ k, Q r { s with toks := k }) : wpAny (model prog W.w) A (truthy ca) Q NoE s := by
  unfold trV at e
  split at e
  · cases e; cases ha; exact wpAny_truthy_bool (h s.toks)
  · split at e
    · split at e
      · rename_i xs ei z
        cases e
        obtain ⟨a, da, rfl, ta, oa⟩ := I.at ei ha
        obtain ⟨vs, la, ra⟩ := oa.isList
        refine wpAny_truthy_list la (by have := ra.length; simp; omega) ?_
        have : (!vs.toArray.isEmpty) = !xs.isEmpty := by
          have := ra.length
          cases vs <;> cases xs <;> simp_all
        rw [this]; exact h _
      · cases e
    · cases e
  · cases e
theorem newList_ok (I : Inv W L th ls hp s) {xs : List V} {vs : List Value} (r : VRs th xs vs) (z : xs.length ≤ 1000000) : wpAny (model prog W.w) A (newList vs) (Post W L th ls (hp ++ [.list xs]) (.ref hp.length) s) NoE s := by
  obtain ⟨m, F, hm⟩ := I.lo
  refine wpAny_newObj_type ?_ (by show vs.toArray.size ≤ sizeLine; rw [← sizeLine_big, List.size_toArray, r.length]; omega)
  exact I.newList (k := s.toks) (n := 0) hm (F.push _) (fun b o _ e => Heap.get?_push_of_some _ e) (fresh_size _) (Heap.get?_push_size _ rfl) r
theorem newTuple_ok (I : Inv W L th ls hp s) {xs : List V} {vs : List Value} (r : VRs th xs vs) (z : xs.length ≤ 1000000) : wpAny (model prog W.w) A (newTuple vs) (Post W L th ls (hp ++ [.tuple xs]) (.ref hp.length) s) NoE s := by
  obtain ⟨m, F, hm⟩ := I.lo
  refine wpAny_newObj_type ?_ (by show vs.toArray.size ≤ sizeLine; rw [← sizeLine_big, List.size_toArray, r.length]; omega)
  exact I.newTuple (k := s.toks) (n := 0) hm (F.push _) (fun b o _ e => Heap.get?_push_of_some _ e) (fresh_size _) (Heap.get?_push_size _ rfl) r
end
end Mine

open PySem PySem.W PyProof.Rows PySem.Calls
set_option Elab.async false
set_option maxRecDepth 100000
set_option maxHeartbeats 1000000
namespace Mine
section
variable {W : Wd} {L : Addr} {th th' : Th} {ls : Ls} {hp hp' : Hp} {s : Shared} {prog : Program} {A : Around} {d : Nat}
/-- a list of the ledger turned in place -/
theorem Inv.turnList (I : Inv W L th ls hp s) {i : Nat} {a : Addr} {da : Option Addr} {xs : List V} {vs us : List Value} {n k : Nat} {f : Obj → Obj} (ta : th[i]? = some (a, da)) (hd : da = none) (g : s.heap.get? a = some (listOf vs.toArray n))
    (hf : ∃ n', f (listOf vs.toArray n) = listOf us.toArray n') (r : VRs th xs us) :
    Inv W L th ls (hp.set i (.list xs)) { s with heap := s.heap.update a f, toks := k } ∧ Go L th s.heap th (s.heap.update a f) := by
  subst hd
  obtain ⟨n', hf⟩ := hf
  refine I.turn (a := a) ta (by simp [A1]) (fun b o hb e => ?_) ⟨rfl, us, n', ?_, r⟩
  · rw [Heap.get?_update_ne _ _ _ _ hb]; exact e
  · rw [← hf]; exact Heap.get?_update_self _ g (by rw [hf]; rfl)
theorem VRs.pushOne {xs : List V} {vs : List Value} {v : V} {c : Value} (r : VRs th xs vs) (h : VR th v c) : VRs th (xs ++ [v]) (vs ++ [c]) := r.append ⟨h, trivial⟩
theorem append_ok (I : Inv W L th ls hp s) {i : Nat} {xs : List V} {v : V} {ca cv : Value} (ha : VR th (.ref i) ca) (hv : VR th v cv) (ei : hp[i]? = some (.list xs)) (z : xs.length ≤ 1000000) :
    wpAny (model prog W.w) A (call (.builtin "list.append") [ca, cv]) (Post W L th ls (hp.set i (.list (xs ++ [v]))) .none s) NoE s := by
  obtain ⟨a, da, rfl, ta, oa⟩ := I.at ei ha
  have hd := oa.1
  obtain ⟨vs, n, g, r⟩ := oa.isLst
  have hl : s.heap.IsList a vs.toArray := ⟨_, g, rfl, _, rfl⟩
  refine wpAny_call_entry slot_list_append hl.typeIs entry_list_append ?_ (args_list_append _ _)
  show wpAny _ _ (updateSeq a (·.push cv) >>= fun _ => ret .none) _ _ s
  refine wpAny_bind (wpAny_updateSeq g rfl (wpAny_pure ⟨.none, rfl, ?_⟩) (by rw [← sizeLine_big, List.size_toArray, r.length]; omega) (by rw [← sizeLine_big]; simp [r.length]; omega))
  obtain ⟨I', g'⟩ := I.turnList (k := s.toks) (us := vs ++ [cv]) (f := Obj.mapSeq (·.push cv)) ta hd g ⟨_, by show listOf (vs.toArray.push cv) _ = _; rw [List.push_toArray]⟩ (r.pushOne hv)
  exact ⟨th, I', g', rfl⟩
theorem extend_ok (I : Inv W L th ls hp s) {i j : Nat} {xs ys : List V} {ca cb : Value} (ha : VR th (.ref i) ca) (hb : VR th (.ref j) cb) (ei : hp[i]? = some (.list xs)) (ej : hp[j]? = some (.list ys)) (z : xs.length ≤ 1000000 ∧ ys.length ≤ 1000000) :
    wpAny (model prog W.w) A (call (.builtin "list.extend") [ca, cb]) (Post W L th ls (hp.set i (.list (xs ++ ys))) .none s) NoE s := by
  obtain ⟨a, da, rfl, ta, oa⟩ := I.at ei ha
  obtain ⟨b, db, rfl, tb, ob⟩ := I.at ej hb
  have hd := oa.1
  obtain ⟨vs, n, g, r⟩ := oa.isLst
  obtain ⟨us, n2, g2, r2⟩ := ob.isLst
  have hl : s.heap.IsList a vs.toArray := ⟨_, g, rfl, _, rfl⟩
  have hlong : ¬(!vs.toArray.isEmpty && Builtin.List.listTooLong (vs.toArray.size + us.toArray.size)) = true := by
    have e : Builtin.List.listTooLong (vs.toArray.size + us.toArray.size) = false := by
      unfold Builtin.List.listTooLong
      apply decide_eq_false
      have h1 := r.length
      have h2 := r2.length
      simp only [List.size_toArray]
      have h3 : (16777216 : Nat) = sizeLine := rfl
      omega
    rw [e]; simp
  refine call_meets F.slot_list_extend hl.typeIs F.entry_list_extend (F.args_list_extend_2 _ _) (AutoSeq1.list_extend_list_list_0 a vs.toArray n b us.toArray n2 hlong (by rw [← sizeLine_big, List.size_toArray, r.length]; omega) (by rw [← sizeLine_big]; simp [r.length, r2.length]; omega)) ⟨g, g2, ?_⟩
  obtain ⟨I', g'⟩ := I.turnList (k := s.toks) (us := vs ++ us) (f := Obj.mapSeq (fun x => x ++ us.toArray)) ta hd g ⟨_, by show listOf (vs.toArray ++ us.toArray) _ = _; rw [List.append_toArray]⟩ (r.append r2)
  exact ⟨th, I', g', rfl⟩
def PostU' (W : Wd) (L : Addr) (th : Th) (ls : Ls) (hp' : Hp) (s : Shared) : Unit → Shared → Prop := fun _ s' => ∃ th', Inv W L th' ls hp' s' ∧ Go L th s.heap th' s'.heap
theorem setItem_ok (I : Inv W L th ls hp s) {i : Nat} {xs : List V} {v : V} {k : Int} {t : Tok} {ca cv : Value} (ha : VR th (.ref i) ca) (hv : VR th v cv) (ei : hp[i]? = some (.list xs)) (z : 0 ≤ k ∧ k < xs.length ∧ xs.length ≤ 1000000) :
    wpAny (model prog W.w) A (setItem ca (.int k t) cv) (PostU' W L th ls (hp.set i (.list (xs.set k.toNat v))) s) NoE s := by
  obtain ⟨a, da, rfl, ta, oa⟩ := I.at ei ha
  have hd := oa.1
  obtain ⟨vs, n, g, r⟩ := oa.isLst
  obtain ⟨I', g'⟩ := I.turnList (k := s.toks) (us := vs.set k.toNat cv) (xs := xs.set k.toNat v) (f := Obj.mapSeq (·.setIfInBounds k.toNat cv)) ta hd g ⟨_, by show listOf (vs.toArray.setIfInBounds k.toNat cv) _ = _; rw [List.setIfInBounds_toArray]⟩ (VRs.set hv k.toNat r)
  have hlen := r.length
  exact ki_setAt g z.1 (by omega) (by rw [List.size_toArray]; omega) ⟨th, I', g'⟩
end
end Mine

open PySem PySem.W PyProof.Rows PySem.Calls
set_option Elab.async false
set_option maxRecDepth 100000
set_option maxHeartbeats 1000000
namespace Mine
section
variable {W : Wd} {L : Addr} {th th' : Th} {ls : Ls} {hp hp' : Hp} {s : Shared} {prog : Program} {A : Around} {d : Nat}
theorem ints_of {xs : List V} {vs : List Value} {b : List UInt8} (r : VRs th xs vs) (e : octets xs = some b) : ∃ ns, IntsAre vs ns ∧ (∀ n ∈ ns, 0 ≤ n ∧ n < 256) ∧ byteArr ns = b.toArray := by
  induction xs generalizing vs b with
  | nil =>
    cases vs with
    | nil => cases e; exact ⟨[], .nil, (fun _ h => nomatch h), rfl⟩
    | cons => exact r.elim
  | cons x xs ih =>
    cases vs with
    | nil => exact r.elim
    | cons v vs =>
      cases x <;> simp only [octets] at e <;> try cases e
      rename_i i
      obtain ⟨⟨t, rfl⟩, r⟩ := r
      split at e
      · rename_i z
        obtain ⟨c, e1, e2⟩ := Option.map_eq_some_iff.mp e
        obtain ⟨ns, h1, h2, h3⟩ := ih r e1
        refine ⟨i :: ns, .cons i t h1, fun n hn => ?_, ?_⟩
        · rcases List.mem_cons.mp hn with q | q
          · subst q; exact z
          · exact h2 n q
        · subst e2
          unfold byteArr at h3 ⊢
          rw [List.map_cons]
          have : ns.map (fun n : Int => n.toNat.toUInt8) = c := by simpa using congrArg Array.toList h3
          rw [this]
      · cases e
theorem lenB_ok (I : Inv W L th ls hp s) {vs : List V} {cs : List Value} {v : V} (hv : VRs th vs cs) (e : lenB vs hp = some (v, hp')) :
    wpAny (model prog W.w) A (call (Bi.val .len) cs) (Post W L th ls hp' v s) NoE s := by
  unfold lenB at e
  split at e
  · split at e
    · rename_i z
      cases e
      obtain ⟨c, rfl, t, rfl⟩ := vrs1 hv
      exact PySem.W.len_bytes (by simpa using (by omega : List.length _ ≤ 1099511627776)) (I.postT ⟨s.toks + 1, by simp⟩)
    · cases e
  · split at e
    · split at e
      · rename_i xs ei z
        cases e
        obtain ⟨c, rfl, h⟩ := vrs1 hv
        obtain ⟨a, da, rfl, ta, oa⟩ := I.at ei h
        obtain ⟨us, la, ra⟩ := oa.isList
        have hl := ra.length
        exact PyProof.Rows.len_list la (by simp; omega) (I.postT ⟨s.toks + 1, by simp [hl]⟩)
      · cases e
    · cases e
  · cases e
theorem oneB_inv {f : Int → Option V} {vs : List V} {v : V} (e : oneB f vs hp = some (v, hp')) : ∃ x, vs = [.int x] ∧ f x = some v ∧ hp' = hp := by
  unfold oneB at e
  split at e
  · obtain ⟨u, e1, e2⟩ := Option.map_eq_some_iff.mp e
    cases e2
    exact ⟨_, rfl, e1, rfl⟩
  · cases e
theorem isiB_ok (I : Inv W L th ls hp s) {vs : List V} {cs : List Value} {v : V} (hv : VRs th vs cs) (e : isiB vs hp = some (v, hp')) :
    wpAny (model prog W.w) A (call (Bi.val .isinstance) cs) (Post W L th ls hp' v s) NoE s := by
  unfold isiB at e
  split at e
  · obtain ⟨c1, c2, rfl, h, q2⟩ := vrs2 hv
    cases q2
    split at e
    · cases e
      obtain ⟨t, rfl⟩ := h
      exact IsiPair.int_int (I.post rfl)
    · split at e
      · rename_i fs ei
        cases e
        obtain ⟨a, da, rfl, ta, oa⟩ := I.at ei h
        obtain ⟨dx, es, k, e1, J, g, r⟩ := oa.inst
        exact kin_callT (T := "int") I.kin J (by kernel_rfl) (kitMeta_of (by kernel_rfl)) (by kernel_rfl) (by kernel_rfl) (by kernel_rfl) (by kernel_rfl) (by kernel_rfl) (by kernel_rfl) (I.postT rfl)
      · cases e
    · cases e
  · cases e
theorem bytB_ok (R : Rm A d) (I : Inv W L th ls hp s) {vs : List V} {cs : List Value} {v : V} (hv : VRs th vs cs) (e : bytB vs hp = some (v, hp')) :
    wpAny (model prog W.w) A (call (Bi.val .bytes) cs) (Post W L th ls hp' v s) NoE s := by
  unfold bytB at e
  split at e
  · split at e
    · split at e
      · rename_i xs ei z
        obtain ⟨bs, e1, e2⟩ := Option.map_eq_some_iff.mp e
        cases e2
        obtain ⟨c, rfl, h⟩ := vrs1 hv
        obtain ⟨a, da, rfl, ta, oa⟩ := I.at ei h
        obtain ⟨us, la, ra⟩ := oa.isList
        obtain ⟨ns, n1, n2, n3⟩ := ints_of ra e1
        refine call_bytes_ints la n1 n2 (by rw [← sizeLine_big, ra.length]; omega) R.hd fun h' t k hk => ?_
        obtain ⟨I', g'⟩ := I.kept (k := k) (h' := h') hk
        exact ⟨th, I', g', t, by rw [n3]⟩
      · cases e
    · cases e
  · cases e
theorem minB_ok (R : Rm A d) (I : Inv W L th ls hp s) {vs : List V} {cs : List Value} {v : V} (hv : VRs th vs cs) (e : minB vs hp = some (v, hp')) :
    wpAny (model prog W.w) A (call (Bi.val .min) cs) (Post W L th ls hp' v s) NoE s := by
  unfold minB at e
  split at e
  · cases e
    obtain ⟨c1, c2, rfl, ⟨t, rfl⟩, ⟨u, rfl⟩⟩ := vrs2 hv
    refine min_two_ints R.hd fun h' tk hk => ?_
    obtain ⟨I', g'⟩ := I.kept (k := tk) (h' := h') hk
    refine ⟨th, I', g', ?_⟩
    first | (split <;> first | exact ⟨_, rfl⟩ | (split <;> first | exact ⟨_, rfl⟩ | omega)) | trace_state
  · cases e
theorem callB_ok (R : Rm A d) (I : Inv W L th ls hp s) {b : Bi} {vs : List V} {cs : List Value} {v : V} (hv : VRs th vs cs) (e : callB b vs hp = some (v, hp')) :
    wpAny (model prog W.w) A (call b.val cs) (Post W L th ls hp' v s) NoE s := by
  unfold callB at e
  split at e
  · exact lenB_ok I hv e
  · obtain ⟨x, rfl, q, rfl⟩ := oneB_inv e
    clear e
    obtain ⟨c, rfl, t, rfl⟩ := vrs1 hv
    split at q
    · rename_i z
      cases q
      exact chr_of_range z.1 z.2 (I.postT ⟨_, rfl⟩)
    · cases q
  · exact minB_ok R I hv e
  · obtain ⟨x, rfl, q, rfl⟩ := oneB_inv e
    clear e
    obtain ⟨c, rfl, t, rfl⟩ := vrs1 hv
    cases q
    refine call_abs_int fun u tk => I.postT (k := tk) ⟨u, ?_⟩
    congr 1
    split <;> omega
  · obtain ⟨x, rfl, q, rfl⟩ := oneB_inv e
    clear e
    obtain ⟨c, rfl, t, rfl⟩ := vrs1 hv
    cases q
    exact call_int_int (I.post ⟨_, rfl⟩)
  · exact isiB_ok I hv e
  · exact bytB_ok R I hv e
  · cases e
end
end Mine

open PySem PySem.W PyProof.Rows PySem.Calls
set_option Elab.async false
set_option maxRecDepth 100000
set_option maxHeartbeats 1000000
namespace Mine
theorem slot_bjoin : Slot "bytes" "join" "bytes.join" :=
  Slot.of (T := "bytes") (name := "join") (owner := "bytes") (n := "join") (by rw [typeLookup_type, builtinLookup_eq_fast]; kernel_rfl) (by decide +kernel) (by decide +kernel) (by decide +kernel) (.inr (by decide +kernel)) (by rw [isSubtype_type]; kernel_rfl)
theorem type_bjoin : typeOf (.builtin "bytes.join") = pure (.type "method_descriptor") := by show builtinType _ = _; rw [builtinType_eq_fast]; kernel_rfl
theorem entry_bjoin : entryFor table "bytes.join" = some Builtin.«bytes.join» := by first | exact entryFor_of_fast (by kernel_rfl) | exact entryFor_of_tree (by kernel_rfl)
theorem args_bjoin (a b : Value) : argsOk "bytes.join" ⟨[a, b], []⟩ := by unfold argsOk; kernel_rfl
section
variable {W : Wd} {L : Addr} {th th' : Th} {ls : Ls} {hp hp' : Hp} {s : Shared} {prog : Program} {A : Around} {d : Nat} {E : Value → Shared → Prop}
theorem take_eq {id : String} {b : Array UInt8} {t : Tok} : Builtin.Bytes.takeBuffer? id (.bytes b t) 0 = pure (some (b, none)) := by
  unfold Builtin.Bytes.takeBuffer?
  rw [KBy.special_eq KBy.look_buffer, KBy.own_buffer]
  simp only [pure_bind]
  rw [if_neg (by decide), show ((0 : Int) == Builtin.Bytes.fullReadOnly) = false from by decide, KBy.buffer_eq]
  rfl
theorem quietTake_eq {id : String} {b : Array UInt8} {t : Tok} : Builtin.Bytes.takeBufferQuiet? id (.bytes b t) 0 = pure (some (b, none)) := by
  unfold Builtin.Bytes.takeBufferQuiet?
  rw [take_eq]
  rfl
/-- the parts of a join, as values and as bytes -/
theorem byteJoin_vals : ∀ {xs : List V} {vs : List Value} {b : List UInt8}, VRs th xs vs → byteJoin hp xs = some b → ∃ bs : List (List UInt8 × Tok), vs = bs.map (fun p => Value.bytes p.1.toArray p.2) ∧ b = (bs.map (·.1)).flatten
  | [], [], _, _, e => by cases e; exact ⟨[], rfl, rfl⟩
  | x :: xs, v :: vs, b, ⟨h, r⟩, e => by
      cases x <;> simp only [byteJoin] at e <;> try cases e
      rename_i c
      obtain ⟨t, rfl⟩ := h
      obtain ⟨b', e1, e2⟩ := Option.map_eq_some_iff.mp e
      obtain ⟨bs, q1, q2⟩ := byteJoin_vals r e1
      exact ⟨(c, t) :: bs, by rw [q1]; rfl, by rw [← e2, q2]; rfl⟩
  | [], _ :: _, _, h, _ => h.elim
  | _ :: _, [], _, h, _ => h.elim
theorem joinLetGo_ok {keep : List Value} {Q : Unit → Shared → Prop} (h : Q () s) : ∀ (l : List (Value × Option Value)), (∀ p ∈ l, p.2 = none) → wpAny (model prog W.w) A (Builtin.Bytes.joinLetGo l keep) Q E s
  | [], _ => wpAny_pure h
  | (x, w) :: r, k => by
      have hw := k (x, w) (.head _)
      dsimp only at hw
      subst hw
      unfold Builtin.Bytes.joinLetGo
      refine wpAny_bind ?_
      unfold letGo
      refine wpAny_bind (wpAny_holding (wpAny_point ?_))
      exact wpAny_pure (joinLetGo_ok h r fun p hp => k p (.tail _ hp))
theorem joined_nil (l : List (List UInt8)) : Builtin.Bytes.joined #[] (l.map (·.toArray)) = l.flatten.toArray := by
  unfold Builtin.Bytes.joined
  have key : ∀ (l : List (List UInt8)) (k : Nat) (acc : List UInt8), ((l.map (·.toArray)).zipIdx k).foldl (fun (out : Array UInt8) (p : Array UInt8 × Nat) => (if p.2 > 0 then out ++ #[] else out) ++ p.1) acc.toArray = (acc ++ l.flatten).toArray := by
    intro l
    induction l with
    | nil => intro k acc; simp
    | cons x r ih =>
      intro k acc
      rw [List.map_cons, List.zipIdx_cons, List.foldl_cons]
      have : (if k > 0 then acc.toArray ++ #[] else acc.toArray) ++ x.toArray = (acc ++ x).toArray := by split <;> simp
      simp only [this]
      rw [ih, List.flatten_cons, List.append_assoc]
  have := key l 0 []
  simpa using this
theorem joinSizes (l : List (List UInt8)) : ∀ (k : Nat), ((l.map (·.toArray)).toArray).foldl (fun (a : Nat) (x : Array UInt8) => a + x.size) k = k + l.flatten.length := by
  intro k
  rw [List.foldl_toArray]
  induction l generalizing k with
  | nil => simp
  | cons x r ih => rw [List.map_cons, List.foldl_cons, ih]; simp; omega
theorem bjoin_ok {l : Addr} {bs : List (List UInt8 × Tok)} {t : Tok} {Q : Value → Shared → Prop} (hl : s.heap.IsList l (bs.map (fun p => Value.bytes p.1.toArray p.2)).toArray) (z : ((bs.map (·.1)).flatten).length ≤ 1000000)
    (h : ∀ u k, Q (.bytes ((bs.map (·.1)).flatten).toArray u) { s with toks := k }) : wpAny (model prog W.w) A (call (.builtin "bytes.join") [.bytes #[] t, .ref l]) Q E s := by
  obtain ⟨o, g, hc, n, hd⟩ := id hl
  refine wpAny_call_entry slot_bjoin (typeIs_bytes _ _ _) entry_bjoin ?_ (args_bjoin _ _)
  unfold Builtin.«bytes.join» Builtin.Bytes.joinM
  dsimp only
  refine wpAny_bind (wpAny_of_eq (a := (Value.bytes #[] t, Value.ref l)) (by rfl) ?_)
  dsimp only
  rw [if_pos (show (Builtin.Bytes.Kind.bytes == Builtin.Bytes.Kind.bytes) = true from rfl)]
  refine wpAny_bind (m := Builtin.Bytes.joinItems (Value.ref l)) ?_
  unfold Builtin.Bytes.joinItems
  refine wpAny_bind (wpAny_typeOf hl.typeIs ?_)
  rw [if_pos (by decide)]
  refine wpAny_pure ?_
  refine wpAny_bind (wpAny_seqItems g hd ?_)
  dsimp only
  rw [if_pos (show (Builtin.Bytes.Kind.bytes == Builtin.Bytes.Kind.bytes) = true from rfl)]
  generalize hA : (bs.map (fun p => Value.bytes p.1.toArray p.2)).toArray = arr at *
  by_cases hs1 : arr.size = 1
  · match bs, hA with
    | [], hA => subst hA; exact absurd hs1 (by decide)
    | _ :: _ :: _, hA => subst hA; simp at hs1
    | [(b, u)], hA =>
      subst hA
      show wpAny _ _ (typeOf (Value.bytes b.toArray u) >>= _) _ _ _
      refine wpAny_bind (wpAny_typeOf (typeIs_bytes _ _ _) ?_)
      rw [if_pos (by decide)]
      refine wpAny_bind (wpAny_rule (wpAny_pure ⟨_, rfl, ?_⟩))
      have := h u s.toks
      show Q (Value.bytes b.toArray u) s
      simpa using this
  · have sz : arr.size = bs.length := by rw [← hA]; simp
    unfold Builtin.Bytes.joinM.match_1
    rw [dif_neg hs1]
    refine wpAny_bind ?_
    rw [Std.Legacy.Range.forIn_eq_forIn_range']
    refine wpAny_forIn_list _ (fun rest st s' => ∃ i, rest = List.range' i (bs.length - i) ∧ i ≤ bs.length ∧ st.1 = (((bs.take i).map (·.1)).map (·.toArray)).toArray ∧ (∀ p ∈ st.2, p.2 = none ∧ p.1.onHeap = false) ∧ s' = s) _ ?_ ?_ _ _ ⟨0, ?_, Nat.zero_le _, by simp, (fun _ h => nomatch h), rfl⟩
    · rintro i rest ⟨parts, taken⟩ s' ⟨j, e1, e2, e3, e4, es⟩
      subst s'
      dsimp only at e3 e4 ⊢
      have hj : j < bs.length := by
        rcases Nat.lt_or_ge j bs.length with q | q
        · exact q
        · rw [Nat.sub_eq_zero_of_le q] at e1; cases e1
      obtain ⟨k, hk⟩ : ∃ k, bs.length - j = k + 1 := ⟨bs.length - j - 1, by omega⟩
      rw [hk, List.range'_succ, List.cons.injEq] at e1
      obtain ⟨rfl, e1⟩ := e1
      refine wpAny_bind (wpAny_seqItems g hd ?_)
      dsimp only
      have hv : (arr.getD i Value.none) = Value.bytes (bs[i]).1.toArray (bs[i]).2 := by
        rw [← hA]; simp [Array.getD, hj]
      rw [hv, if_neg (by
        have : (taken.any fun x => x.1.onHeap) = false := List.any_eq_false.mpr fun p hp => by rw [(e4 p hp).2]; decide
        rw [this]; decide)]
      refine wpAny_bind (wpAny_holding (wpAny_of_eq quietTake_eq ?_))
      dsimp only
      refine wpAny_bind (wpAny_seqItems g hd ?_)
      dsimp only
      rw [if_neg (by simp)]
      refine wpAny_pure ⟨i + 1, ?_, hj, ?_, ?_, rfl⟩
      · rw [e1]; congr 1; omega
      · dsimp only
        rw [e3, List.take_succ_eq_append_getElem hj]; simp only [List.push_toArray, List.map_append, List.map_cons, List.map_nil]
      · intro p hp
        rcases List.mem_append.mp hp with q | q
        · exact e4 p q
        · simp at q; subst q; exact ⟨rfl, rfl⟩
    · rintro ⟨parts, taken⟩ s' ⟨j, e1, e2, e3, e4, es⟩
      subst s'
      dsimp only at e3 e4 ⊢
      have hj : j = bs.length := by
        rcases Nat.lt_or_ge j bs.length with q | q
        · obtain ⟨k, hk⟩ : ∃ k, bs.length - j = k + 1 := ⟨bs.length - j - 1, by omega⟩
          rw [hk, List.range'_succ] at e1; cases e1
        · omega
      subst hj
      rw [List.take_length] at e3
      subst e3
      refine wpAny_bind (m := Builtin.Bytes.payload (Value.bytes #[] t)) (wpAny_of_eq (a := #[]) (by rfl) ?_)
      have hlong : Builtin.Bytes.tooLong ((((bs.map (·.1)).map (·.toArray)).toArray).foldl (fun (a : Nat) (x : Array UInt8) => a + x.size) ((#[] : Array UInt8).size * ((((bs.map (·.1)).map (·.toArray)).toArray).size - 1))) = false := by
        rw [joinSizes]
        exact KBy.tooLong_not (by simpa using (by omega : ((bs.map (·.1)).flatten).length ≤ 16777216))
      rw [if_neg (by rw [hlong]; decide)]
      have hj2 := joined_nil (bs.map (·.1))
      have hsz : (Builtin.Bytes.joined #[] (((bs.map (·.1)).map (·.toArray)).toArray).toList) = ((bs.map (·.1)).flatten).toArray := hj2
      rw [hsz]
      refine wpAny_bind (m := mkBytes _) (wpAny_mkBytes ?_ ?_)
      · refine wpAny_bind (wpAny_holding (wpAny_point (wpAny_bind (joinLetGo_ok (wpAny_pure ⟨_, rfl, h _ _⟩) _ fun p hp => (e4 p hp).1))))
      · rw [List.size_toArray, ← sizeLine_big]; omega
    · rw [sz]; simp
end
end Mine

open PySem PySem.W PyProof.Rows PySem.Calls
set_option Elab.async false
set_option maxRecDepth 100000
set_option maxHeartbeats 1000000
namespace Mine
def RC (Q : Value → Shared → Prop) : Result → Shared → Prop := fun r s' => match r with
  | .ok (.ret v) => Q v s'
  | .ok _ => False
  | .error e => NoE e s'
def CallOK (W : Wd) (prog : Program) (C : Orc) (dd : Nat) : Prop :=
  (∀ (A : Around) (L : Addr) (th : Th) (ls : Ls) (hp : Hp) (s : Shared) (a : Addr) (vs : List V) (cs : List Value) (v : V) (hp' : Hp), Rm A dd → Inv W L th ls hp s → VRs th vs cs → C a vs hp = some (v, hp') →
    codeAny (model prog W.w) A (.call (.ref a) ⟨cs, []⟩) (RC (Post W L th ls hp' v s)) s) ∧
  (∀ (a : Addr) (vs : List V) (hp : Hp) (r : V × Hp), C a vs hp = some r → ∀ P, keepIn (KK P) (.ref a) = true)
structure CxOk (W : Wd) (prog : Program) (dd : Nat) (cx : Cx) : Prop where
  sc : cx.sc = W.sc
  ok : CallOK W prog cx.C dd
  dbg : cx.names.lookup (Str.ofString "__debug__") = none
def PostL (W : Wd) (L : Addr) (th : Th) (ls : Ls) (hp' : Hp) (vs : List V) (s : Shared) : List Value → Shared → Prop :=
  fun cs s' => ∃ th', Inv W L th' ls hp' s' ∧ Go L th s.heap th' s'.heap ∧ VRs th' vs cs
def PostB (W : Wd) (L : Addr) (th : Th) (ls : Ls) (hp' : Hp) (b : Bool) (s : Shared) : Bool → Shared → Prop :=
  fun c s' => c = b ∧ ∃ th', Inv W L th' ls hp' s' ∧ Go L th s.heap th' s'.heap
def ES (W : Wd) (prog : Program) (dd : Nat) (cx : Cx) (e : PySem.Expr) (ev : Ev) : Prop :=
  ∀ (A : Around) (env : Env) (th : Th) (ls : Ls) (hp : Hp) (s : Shared) (v : V) (hp' : Hp), Rm A dd → EnvOk cx th env → Inv W env.locals th ls hp s → ev ls hp = some (v, hp') →
    wpAny (model prog W.w) A (eval e env) (Post W env.locals th ls hp' v s) NoE s
def TS (W : Wd) (prog : Program) (dd : Nat) (cx : Cx) (e : PySem.Expr) (tr : Tr) : Prop :=
  ∀ (A : Around) (env : Env) (th : Th) (ls : Ls) (hp : Hp) (s : Shared) (b : Bool) (hp' : Hp), Rm A dd → EnvOk cx th env → Inv W env.locals th ls hp s → tr ls hp = some (b, hp') →
    wpAny (model prog W.w) A (isTrue e env (eval e env)) (PostB W env.locals th ls hp' b s) NoE s
section
variable {W : Wd} {prog : Program} {dd : Nat} {cx : Cx} {L : Addr} {th th' : Th} {ls : Ls} {hp hp' : Hp} {s : Shared} {A : Around}
theorem PostB.trans {b : Bool} {s' : Shared} {c : Bool} {s'' : Shared} (g : Go L th s.heap th' s'.heap) (p : PostB W L th' ls hp' b s' c s'') : PostB W L th ls hp' b s c s'' :=
  let ⟨e, t, I, g'⟩ := p; ⟨e, t, I, g.trans g'⟩
theorem PostL.trans {vs : List V} {s' : Shared} {c : List Value} {s'' : Shared} (g : Go L th s.heap th' s'.heap) (p : PostL W L th' ls hp' vs s' c s'') : PostL W L th ls hp' vs s c s'' :=
  let ⟨t, I, g', r⟩ := p; ⟨t, I, g.trans g', r⟩
/-- the next step, begun in the state that a step has left -/
theorem then_post {α : Type} {t : Sem α} {Q : α → Shared → Prop} {M : Model} {P : α → Shared → Prop} {s1 : Shared} (h : wpAny M A t P NoE s1) (k : ∀ a s', P a s' → Q a s') : wpAny M A t Q NoE s1 := wpAny_mono h k fun _ _ x => x
theorem then_any {α : Type} {t : Sem α} {Q : α → Shared → Prop} {M : Model} {P : α → Shared → Prop} {E : Value → Shared → Prop} {s1 : Shared} (h : wpAny M A t P NoE s1) (k : ∀ a s', P a s' → Q a s') : wpAny M A t Q E s1 := wpAny_mono h k fun _ _ x => x.elim
theorem s_No {e : PySem.Expr} : ES W prog dd cx e eNo := fun _ _ _ _ _ _ _ _ _ _ _ h => by cases h
theorem s_Const {c : Const} {k : Nat} {p : Pos} : ES W prog dd cx (.Constant c k p) (eConst c) := fun A env th ls hp s v hp' R O I h => by
  rw [eval_Constant]
  cases c with
  | none => cases h; exact wpAny_pure (I.post rfl)
  | bool b => cases h; exact wpAny_pure (I.post rfl)
  | int i => cases h; exact wpAny_mkInt (I.postT ⟨_, rfl⟩)
  | str x => cases h; exact wpAny_mkText (I.postT ⟨_, rfl⟩)
  | bytes b => cases h; exact fun _ _ _ => I.postT ⟨_, rfl⟩
  | float x => cases h
  | complex x y => cases h
  | ellipsis => cases h
/-- what stands under the names of the top and of the built-ins -/
def GlobAt (P : Params) (x : Str) (v : V) : Prop := (∃ c, nsIn (KK P) mainGlobals x = some (some c) ∧ ∀ th, VR th v c) ∨ (∃ c, nsIn (KK P) mainGlobals x = some none ∧ bootBuiltins x = some c ∧ x ≠ "__name__" ∧ ∀ th, VR th v c)
theorem glob_one {P : Params} {x : Str} {a : Addr} {v : V} (e : nsIn (KK P) mainGlobals x = some (some (.ref a))) (h : ∀ th, VR th v (.ref a)) : GlobAt P x v := .inl ⟨_, e, h⟩
theorem gt_all {P : Params} : ∀ p ∈ GT, GlobAt P p.1 p.2 := by
  unfold GT
  simp only [List.map_cons, List.map_nil]
  repeat' (first
    | exact fun _ h => absurd h List.not_mem_nil
    | refine List.forall_mem_cons.mpr ⟨?_, ?_⟩)
  · exact .inl ⟨.ref 62, by kernel_rfl, fun _ => rfl⟩
  · exact .inl ⟨.ref 63, by kernel_rfl, fun _ => rfl⟩
  · exact .inl ⟨.int 10 272, by kernel_rfl, fun _ => ⟨_, rfl⟩⟩
  · exact .inl ⟨.int 13 274, by kernel_rfl, fun _ => ⟨_, rfl⟩⟩
  · exact .inl ⟨.int 37 276, by kernel_rfl, fun _ => ⟨_, rfl⟩⟩
  · exact .inl ⟨.ref 70, by kernel_rfl, fun _ => rfl⟩
  · exact .inl ⟨.ref 77, by kernel_rfl, fun _ => rfl⟩
  · exact .inl ⟨.ref 187, by kernel_rfl, fun _ => rfl⟩
  · exact .inl ⟨.int 40 436, by kernel_rfl, fun _ => ⟨_, rfl⟩⟩
  · exact .inl ⟨.int 43 438, by kernel_rfl, fun _ => ⟨_, rfl⟩⟩
  · exact .inl ⟨.int 45 440, by kernel_rfl, fun _ => ⟨_, rfl⟩⟩
  · exact .inl ⟨.int 46 442, by kernel_rfl, fun _ => ⟨_, rfl⟩⟩
  · exact .inl ⟨.int 48 444, by kernel_rfl, fun _ => ⟨_, rfl⟩⟩
  · exact .inl ⟨.ref 285, by kernel_rfl, fun _ => rfl⟩
  · exact .inl ⟨.ref 303, by kernel_rfl, fun _ => rfl⟩
  · exact .inl ⟨.int 40 581, by kernel_rfl, fun _ => ⟨_, rfl⟩⟩
  · exact .inl ⟨.int 41 583, by kernel_rfl, fun _ => ⟨_, rfl⟩⟩
  · exact .inl ⟨.int 60 585, by kernel_rfl, fun _ => ⟨_, rfl⟩⟩
  · exact .inl ⟨.int 62 587, by kernel_rfl, fun _ => ⟨_, rfl⟩⟩
  · exact .inl ⟨.int 47 589, by kernel_rfl, fun _ => ⟨_, rfl⟩⟩
  · exact .inl ⟨.int 92 591, by kernel_rfl, fun _ => ⟨_, rfl⟩⟩
  · exact .inl ⟨.int 35 593, by kernel_rfl, fun _ => ⟨_, rfl⟩⟩
  · exact .inl ⟨.ref 304, by kernel_rfl, fun _ => rfl⟩
  · exact .inl ⟨.ref 311, by kernel_rfl, fun _ => rfl⟩
  · exact .inl ⟨.ref 318, by kernel_rfl, fun _ => rfl⟩
  · exact .inl ⟨.ref 326, by kernel_rfl, fun _ => rfl⟩
  · exact .inl ⟨.ref 333, by kernel_rfl, fun _ => rfl⟩
  · exact .inl ⟨.ref 340, by kernel_rfl, fun _ => rfl⟩
  · exact .inl ⟨.ref 347, by kernel_rfl, fun _ => rfl⟩
  · exact .inl ⟨.ref 352, by kernel_rfl, fun _ => rfl⟩
  · exact .inl ⟨.ref 359, by kernel_rfl, fun _ => rfl⟩
  · exact .inl ⟨.ref 366, by kernel_rfl, fun _ => rfl⟩
  · exact .inl ⟨.ref 373, by kernel_rfl, fun _ => rfl⟩
  · exact .inl ⟨.ref 380, by kernel_rfl, fun _ => rfl⟩
  · exact .inl ⟨.ref 381, by kernel_rfl, fun _ => rfl⟩
  · exact .inl ⟨.ref 388, by kernel_rfl, fun _ => rfl⟩
  · exact .inl ⟨.ref 395, by kernel_rfl, fun _ => rfl⟩
  · exact .inl ⟨.ref 400, by kernel_rfl, fun _ => rfl⟩
  · exact .inl ⟨.ref 407, by kernel_rfl, fun _ => rfl⟩
  · exact .inr ⟨.builtin "len", by kernel_rfl, by kernel_rfl, by decide, fun _ => rfl⟩
  · exact .inr ⟨.builtin "chr", by kernel_rfl, by kernel_rfl, by decide, fun _ => rfl⟩
  · exact .inr ⟨.builtin "min", by kernel_rfl, by kernel_rfl, by decide, fun _ => rfl⟩
  · exact .inr ⟨.builtin "isinstance", by kernel_rfl, by kernel_rfl, by decide, fun _ => rfl⟩
  · exact .inr ⟨.type "int", by kernel_rfl, by kernel_rfl, by decide, fun _ => rfl⟩
  · exact .inr ⟨.type "range", by kernel_rfl, by kernel_rfl, by decide, fun _ => rfl⟩
  · exact .inr ⟨.type "bytes", by kernel_rfl, by kernel_rfl, by decide, fun _ => rfl⟩
  · exact .inr ⟨.builtin "abs", by kernel_rfl, by kernel_rfl, by decide, fun _ => rfl⟩
theorem lookup_mem {α : Type} : ∀ {l : List (Str × α)} {x : Str} {v : α}, l.lookup x = some v → (x, v) ∈ l
  | [], _, _, e => by cases e
  | (y, u) :: r, x, v, e => by
    rw [List.lookup_cons] at e
    by_cases q : (x == y) = true
    · rw [q] at e; cases e; rw [eq_of_beq q]; exact .head _
    · rw [Bool.eq_false_iff.mpr q] at e; exact .tail _ (lookup_mem e)
theorem ls_cell {i : Nat} {v : V} (I : Inv W L th ls hp s) (e : hp[i]? = some (.cell (some v))) : ∃ a d c, th[i]? = some (a, d) ∧ s.heap.IsCell a (some c) ∧ VR th v c := by
  obtain ⟨⟨a, d⟩, h1, h2⟩ := I.hr.obj e
  obtain ⟨_, c, h3, h4⟩ := h2
  cases c with
  | none => exact h4.elim
  | some c => exact ⟨a, d, c, h1, h3, h4⟩
theorem s_Name (H : CxOk W prog dd cx) {x : Str} {p : Pos} : ES W prog dd cx (.Name x p) (eName cx x) := fun A env th ls hp s v hp' R O I h => by
  have hx : (x == ("__debug__" : Str)) = false := by
    apply Bool.eq_false_iff.mpr
    intro q
    have q := eq_of_beq q
    subst q
    unfold eName at h
    rw [H.dbg] at h
    cases h
  rw [eval_Name env x p hx]
  refine wpAny_bind (wpAny_standAt ?_)
  generalize hk : cx.names.lookup x = ok at h
  unfold eName at h
  rw [hk] at h
  have hk' : env.kindOf x = ok := by unfold Env.kindOf; rw [O.names]; exact hk
  rcases ok with _ | ok
  · cases h
  cases ok with
  | «local» =>
    dsimp only [eLoc] at h
    split at h
    · rename_i u hu
      cases h
      obtain ⟨m, F, hm⟩ := I.lo
      obtain ⟨c, h1, h2⟩ := hm x _ hu
      exact wpAny_loadName_local O.kind hk' F.ns h1 (I.post h2)
    · cases h
  | cell =>
    generalize hi : cx.cells.lookup x = oi at h
    rcases oi with _ | i
    · cases h
    dsimp only [eCell] at h
    split at h
    · rename_i u hu
      cases h
      obtain ⟨a, d, t1, t2⟩ := O.cells x i hi
      obtain ⟨a', d', c, q1, q2, q3⟩ := ls_cell I hu
      rw [t1] at q1; cases q1
      exact wpAny_loadName_cell O.kind hk' t2 q2 (I.post q3)
    · cases h
  | globalImplicit =>
    generalize hg : GT.lookup x = og at h
    rcases og with _ | u
    · cases h
    cases h
    have g := gt_all (P := W.w.params) _ (lookup_mem hg)
    unfold loadName
    simp only [Env.blockKind, O.kind, hk', ScopeKind.isAnnotationScope, Bool.false_and, Bool.false_eq_true, if_false]
    have G : s.heap.Ns env.globals W.mg := by rw [O.glob]; exact W.g.keeps I.keep
    rcases g with ⟨c, g1, g2⟩ | ⟨c, g1, g2, g3, g4⟩
    · exact loadGlobal_global G (mg_of W.kin W.g g1) (I.post (g2 _))
    · exact loadGlobal_builtin G (mg_none_of W.kin W.g g1) (by rw [O.blt]; exact W.b.keeps I.keep) (by rw [W.bt _ g3]; exact g2) (I.post (g4 _))
  | free => cases h
  | globalExplicit => cases h
theorem s_BinOp {l r : PySem.Expr} {op : Operator} {p : Pos} {el er : Ev} (hl : ES W prog dd cx l el) (hr : ES W prog dd cx r er) : ES W prog dd cx (.BinOp l op r p) (e2 (binV op) el er) := fun A env th ls hp s v hp' R O I h => by
  unfold e2 at h
  split at h
  · rename_i x h1 q1
    split at h
    · rename_i y h2 q2
      refine wpAny_BinOp (then_post (hl A env th ls hp s x h1 R O I q1) fun a s1 ⟨t1, I1, g1, r1⟩ => then_post (hr A env t1 ls h1 s1 y h2 R (O.mono g1.pre) I1 q2) fun b s2 ⟨t2, I2, g2, r2⟩ => ?_)
      exact then_post (bin_ok R I2 (r1.mono g2.pre) r2 h) fun c s3 p3 => (p3.trans g2).trans g1
    · cases h
  · cases h
theorem s_Neg {e : PySem.Expr} {p : Pos} {ev : Ev} (he : ES W prog dd cx e ev) : ES W prog dd cx (.UnaryOp .USub e p) (e1 negV ev) := fun A env th ls hp s v hp' R O I h => by
  unfold e1 at h
  split at h
  · rename_i x h1 q1
    exact wpAny_UnaryOp (then_post (he A env th ls hp s x h1 R O I q1) fun a s1 ⟨t1, I1, g1, r1⟩ => then_post (neg_ok I1 r1 h) fun c s3 p3 => p3.trans g1)
  · cases h
theorem s_IfExp {t a b : PySem.Expr} {p : Pos} {tr : Tr} {ea eb : Ev} (ht : TS W prog dd cx t tr) (ha : ES W prog dd cx a ea) (hb : ES W prog dd cx b eb) : ES W prog dd cx (.IfExp t a b p) (eIf tr ea eb) := fun A env th ls hp s v hp' R O I h => by
  unfold eIf at h
  split at h
  · rename_i h1 q1
    refine wpAny_IfExp (then_post (ht A env th ls hp s _ h1 R O I q1) ?_)
    rintro c s1 ⟨rfl, t1, I1, g1⟩
    exact then_post (ha A env t1 ls h1 s1 v hp' R (O.mono g1.pre) I1 h) fun c s3 p3 => p3.trans g1
  · rename_i h1 q1
    refine wpAny_IfExp (then_post (ht A env th ls hp s _ h1 R O I q1) ?_)
    rintro c s1 ⟨rfl, t1, I1, g1⟩
    exact then_post (hb A env t1 ls h1 s1 v hp' R (O.mono g1.pre) I1 h) fun c s3 p3 => p3.trans g1
  · cases h
/-- 'and' of bools, as a value -/
theorem s_AndL {p : Pos} {env : Env} {A : Around} (R : Rm A dd) : ∀ (es : List PySem.Expr) (evs : List Ev), es.length = evs.length → (∀ (i : Nat) e ev, es[i]? = some e → evs[i]? = some ev → ES W prog dd cx e ev) → ∀ (th : Th) (ls : Ls) (hp : Hp) (s : Shared) (v : V) (hp' : Hp), EnvOk cx th env → Inv W env.locals th ls hp s → eAnd evs ls hp = some (v, hp') →
    wpAny (model prog W.w) A (boolOp p .And (evalEach es env)) (Post W env.locals th ls hp' v s) NoE s
  | [], [], _, _, _, _, _, _, _, _, _, _, h => by cases h
  | [e], [ev], _, k, th, ls, hp, s, v, hp', O, I, h => k 0 e ev rfl rfl A env th ls hp s v hp' R O I h
  | e :: e2 :: es, ev :: ev2 :: evs, hl, k, th, ls, hp, s, v, hp', O, I, h => by
      rw [eAnd] at h
      · dsimp only at h
        show wpAny _ _ (boolOp p .And (eval e env :: eval e2 env :: evalEach es env)) _ _ _
        unfold boolOp
        split at h
        · rename_i h1 q1
          refine wpAny_bind (then_post (k 0 e ev rfl rfl A env th ls hp s _ h1 R O I q1) fun a s1 ⟨t1, I1, g1, r1⟩ => ?_)
          cases r1
          refine wpAny_bind (wpAny_standAt (wpAny_bind (wpAny_holding (wpAny_truthy_bool ?_))))
          exact then_post (s_AndL R (e2 :: es) (ev2 :: evs) (by simpa using hl) (fun i e ev a b => k (i + 1) e ev a b) t1 ls h1 s1 v hp' (O.mono g1.pre) I1 h) fun c s3 p3 => p3.trans g1
        · rename_i h1 q1
          cases h
          refine wpAny_bind (then_post (k 0 e ev rfl rfl A env th ls hp s _ _ R O I q1) fun a s1 ⟨t1, I1, g1, r1⟩ => ?_)
          cases r1
          refine wpAny_bind (wpAny_standAt (wpAny_bind (wpAny_holding (wpAny_truthy_bool ?_))))
          exact wpAny_pure ⟨t1, I1, g1, rfl⟩
        · cases h
      · exact fun q => by cases q
  | [], _ :: _, hl, _, _, _, _, _, _, _, _, _, _ => by cases hl
  | _ :: _, [], hl, _, _, _, _, _, _, _, _, _, _ => by cases hl
  | [_], _ :: _ :: _, hl, _, _, _, _, _, _, _, _, _, _ => by cases hl
  | _ :: _ :: _, [_], hl, _, _, _, _, _, _, _, _, _, _ => by cases hl
theorem s_And {es : List PySem.Expr} {p : Pos} {f : PySem.Expr → Ev} (k : ∀ e, ES W prog dd cx e (f e)) : ES W prog dd cx (.BoolOp .And es p) (eAnd (es.map f)) := fun A env th ls hp s v hp' R O I h => by
  rw [arm_eval_BoolOp]
  refine s_AndL R es (es.map f) (by simp) (fun i e ev a b => ?_) th ls hp s v hp' O I h
  rw [List.getElem?_map, a] at b
  cases b
  exact k e
end
end Mine

open PySem PySem.W PyProof.Rows PySem.Calls
set_option Elab.async false
set_option maxRecDepth 100000
set_option maxHeartbeats 1000000
namespace Mine
section
variable {W : Wd} {prog : Program} {dd : Nat} {cx : Cx} {L : Addr} {th th' : Th} {ls : Ls} {hp hp' : Hp} {s : Shared} {A : Around}
theorem PostB.val {b : Bool} {v : Value} {s' : Shared} (p : PostB W L th ls hp' b s b s') (e : v = .bool b) : Post W L th ls hp' (.bool b) s v s' := let ⟨_, t, I, g⟩ := p; ⟨t, I, g, e⟩
theorem notSet_mark {op : CmpOp} {e : PySem.Expr} (h : notSet e = true) : behindInMarks op e = false := by
  cases e <;> first | rfl | cases h
/-- one comparison, as a value -/
theorem s_Cmp1 {l r : PySem.Expr} {op : CmpOp} {p : Pos} {el er : Ev} (hr' : notSet r = true) (hl : ES W prog dd cx l el) (hr : ES W prog dd cx r er) : ES W prog dd cx (.Compare l [op] [r] p) (eTr (tCmp2 (cmpV op) el er)) := fun A env th ls hp s v hp' R O I h => by
  unfold eTr at h
  split at h
  · rename_i b h0 hb
    cases h
    unfold tCmp2 at hb
    split at hb
    · rename_i x h1 q1
      split at hb
      · rename_i y h2 q2
        split at hb
        · rename_i r0 q3
          cases hb
          refine wpAny_Compare1 (then_post (hl A env th ls hp s x h1 R O I q1) fun a s1 ⟨t1, I1, g1, r1⟩ => then_post (hr A env t1 ls h1 s1 y _ R (O.mono g1.pre) I1 q2) fun b s2 ⟨t2, I2, g2, r2⟩ => ?_) (notSet_mark hr')
          exact cmp_ok R I2 (r1.mono g2.pre) r2 q3 ⟨t2, I2, g1.trans g2, rfl⟩
        · cases hb
      · cases hb
    · cases hb
  · cases h
theorem t_Cmp1 {l r : PySem.Expr} {op : CmpOp} {p : Pos} {el er : Ev} (hr' : notSet r = true) (hl : ES W prog dd cx l el) (hr : ES W prog dd cx r er) : TS W prog dd cx (.Compare l [op] [r] p) (tCmp2 (cmpV op) el er) := fun A env th ls hp s b hp' R O I hb => by
  unfold tCmp2 at hb
  split at hb
  · rename_i x h1 q1
    split at hb
    · rename_i y h2 q2
      split at hb
      · rename_i r0 q3
        cases hb
        refine wpAny_isTrue_Compare1 (then_post (hl A env th ls hp s x h1 R O I q1) fun a s1 ⟨t1, I1, g1, r1⟩ => then_post (hr A env t1 ls h1 s1 y _ R (O.mono g1.pre) I1 q2) fun b s2 ⟨t2, I2, g2, r2⟩ => ?_) (notSet_mark hr')
        exact cmp_ok R I2 (r1.mono g2.pre) r2 q3 (wpAny_truthy_bool ⟨rfl, t2, I2, g1.trans g2⟩)
      · cases hb
    · cases hb
  · cases hb
theorem cmp3_parts {f g : V → V → Hp → Option Bool} {a b c : Ev} {r : Bool} (h : tCmp3 f g a b c ls hp = some (r, hp')) :
    ∃ v h1 u h2, a ls hp = some (v, h1) ∧ b ls h1 = some (u, h2) ∧ ((∃ x, f v u h2 = some true ∧ c ls h2 = some (x, hp') ∧ g u x hp' = some r) ∨ (f v u h2 = some false ∧ r = false ∧ hp' = h2)) := by
  unfold tCmp3 at h
  split at h
  · rename_i v h1 q1
    split at h
    · rename_i u h2 q2
      split at h
      · rename_i q3
        split at h
        · rename_i x h3 q4
          split at h
          · rename_i r0 q5
            cases h
            exact ⟨v, h1, u, h2, q1, q2, .inl ⟨x, q3, q4, q5⟩⟩
          · cases h
        · cases h
      · rename_i q3
        cases h
        exact ⟨v, h1, u, _, q1, q2, .inr ⟨q3, rfl, rfl⟩⟩
      · cases h
    · cases h
  · cases h
theorem notSet_last {o1 o2 : CmpOp} {r1 r2 : PySem.Expr} (h : notSet r2 = true) : lastMarks [o1, o2] [r1, r2] = false := by
  show behindInMarks o2 r2 = false
  exact notSet_mark h
theorem s_Cmp2 {l r1 r2 : PySem.Expr} {o1 o2 : CmpOp} {p : Pos} {el e1 e2 : Ev} (hr' : notSet r2 = true) (hl : ES W prog dd cx l el) (k1 : ES W prog dd cx r1 e1) (k2 : ES W prog dd cx r2 e2) : ES W prog dd cx (.Compare l [o1, o2] [r1, r2] p) (eTr (tCmp3 (cmpV o1) (cmpV o2) el e1 e2)) := fun A env th ls hp s v hp' R O I h => by
  unfold eTr at h
  split at h
  · rename_i b h0 hb
    cases h
    obtain ⟨x, h1, y, h2, q1, q2, hc⟩ := cmp3_parts hb
    refine Compare_chain (then_post (hl A env th ls hp s x h1 R O I q1) fun a s1 ⟨t1, I1, g1, r1⟩ => chain_link (then_post (k1 A env t1 ls h1 s1 y h2 R (O.mono g1.pre) I1 q2) fun b s2 ⟨t2, I2, g2, r2⟩ => ?_)) (notSet_last hr')
    rcases hc with ⟨z, c1, c2, c3⟩ | ⟨c1, rfl, rfl⟩
    · refine cmp_ok R I2 (r1.mono g2.pre) r2 c1 (wpAny_truthy_bool ?_)
      rw [if_pos rfl]
      refine chain_last (then_post (k2 A env t2 ls h2 s2 z _ R ((O.mono g1.pre).mono g2.pre) I2 c2) fun c s3 ⟨t3, I3, g3, r3⟩ => ?_)
      exact cmp_ok R I3 (r2.mono g3.pre) r3 c3 ⟨t3, I3, (g1.trans g2).trans g3, rfl⟩
    · exact cmp_ok R I2 (r1.mono g2.pre) r2 c1 (wpAny_truthy_bool ⟨t2, I2, g1.trans g2, rfl⟩)
  · cases h
theorem t_Cmp2 {l r1 r2 : PySem.Expr} {o1 o2 : CmpOp} {p : Pos} {el e1 e2 : Ev} (hr' : notSet r2 = true) (hl : ES W prog dd cx l el) (k1 : ES W prog dd cx r1 e1) (k2 : ES W prog dd cx r2 e2) : TS W prog dd cx (.Compare l [o1, o2] [r1, r2] p) (tCmp3 (cmpV o1) (cmpV o2) el e1 e2) := fun A env th ls hp s b hp' R O I hb => by
  obtain ⟨x, h1, y, h2, q1, q2, hc⟩ := cmp3_parts hb
  refine isTrue_chain (then_post (hl A env th ls hp s x h1 R O I q1) fun a s1 ⟨t1, I1, g1, r1⟩ => test_link (then_post (k1 A env t1 ls h1 s1 y h2 R (O.mono g1.pre) I1 q2) fun b s2 ⟨t2, I2, g2, r2⟩ => ?_)) (notSet_last hr')
  rcases hc with ⟨z, c1, c2, c3⟩ | ⟨c1, rfl, rfl⟩
  · refine cmp_ok R I2 (r1.mono g2.pre) r2 c1 (wpAny_truthy_bool ?_)
    rw [if_pos rfl]
    refine test_last (then_post (k2 A env t2 ls h2 s2 z _ R ((O.mono g1.pre).mono g2.pre) I2 c2) fun c s3 ⟨t3, I3, g3, r3⟩ => ?_)
    exact cmp_ok R I3 (r2.mono g3.pre) r3 c3 (wpAny_truthy_bool ⟨rfl, t3, I3, (g1.trans g2).trans g3⟩)
  · exact cmp_ok R I2 (r1.mono g2.pre) r2 c1 (wpAny_truthy_bool ⟨rfl, t2, I2, g1.trans g2⟩)
theorem t_Not {e : PySem.Expr} {p : Pos} {tr : Tr} (he : TS W prog dd cx e tr) : TS W prog dd cx (.UnaryOp .Not e p) (tNot tr) := fun A env th ls hp s b hp' R O I h => by
  unfold tNot at h
  split at h
  · rename_i b0 h1 q1
    cases h
    refine wpAny_isTrue_Not (then_post (he A env th ls hp s b0 _ R O I q1) ?_)
    rintro c s1 ⟨rfl, t1, I1, g1⟩
    exact ⟨rfl, t1, I1, g1⟩
  · cases h
theorem t_AndL {p : Pos} {f : PySem.Expr → Tr} (k : ∀ e, TS W prog dd cx e (f e)) : ∀ (es : List PySem.Expr), TS W prog dd cx (.BoolOp .And es p) (tAnd (es.map f))
  | [] => fun A env th ls hp s b hp' R O I h => by
      rw [List.map_nil, tAnd] at h; cases h
      exact isTrue_and_nil ⟨rfl, th, I, Go.refl ..⟩
  | e :: es => fun A env th ls hp s b hp' R O I h => by
      rw [List.map_cons, tAnd] at h
      dsimp only at h
      split at h
      · rename_i h1 q1
        refine isTrue_and (then_post (k e A env th ls hp s _ h1 R O I q1) ?_)
        rintro c s1 ⟨rfl, t1, I1, g1⟩
        rw [if_pos rfl]
        exact then_post (t_AndL (p := p) k es A env t1 ls h1 s1 b hp' R (O.mono g1.pre) I1 h) fun c s3 p3 => p3.trans g1
      · rename_i h1 q1
        cases h
        refine isTrue_and (then_post (k e A env th ls hp s _ _ R O I q1) ?_)
        rintro c s1 ⟨rfl, t1, I1, g1⟩
        exact ⟨rfl, t1, I1, g1⟩
      · cases h
theorem t_OrL {p : Pos} {f : PySem.Expr → Tr} (k : ∀ e, TS W prog dd cx e (f e)) : ∀ (es : List PySem.Expr), TS W prog dd cx (.BoolOp .Or es p) (tOr (es.map f))
  | [] => fun A env th ls hp s b hp' R O I h => by
      rw [List.map_nil, tOr] at h; cases h
      exact isTrue_or_nil ⟨rfl, th, I, Go.refl ..⟩
  | e :: es => fun A env th ls hp s b hp' R O I h => by
      rw [List.map_cons, tOr] at h
      dsimp only at h
      split at h
      · rename_i h1 q1
        refine isTrue_or (then_post (k e A env th ls hp s _ h1 R O I q1) ?_)
        rintro c s1 ⟨rfl, t1, I1, g1⟩
        exact then_post (t_OrL (p := p) k es A env t1 ls h1 s1 b hp' R (O.mono g1.pre) I1 h) fun c s3 p3 => p3.trans g1
      · rename_i h1 q1
        cases h
        refine isTrue_or (then_post (k e A env th ls hp s _ _ R O I q1) ?_)
        rintro c s1 ⟨rfl, t1, I1, g1⟩
        rw [if_pos rfl]
        exact ⟨rfl, t1, I1, g1⟩
      · cases h
theorem t_plain {e : PySem.Expr} {ev : Ev} (he : ES W prog dd cx e ev) (hp0 : ∀ env whole, isTrue e env whole = (do let v ← whole; standAt e.pos; holding [v] (truthy v))) : TS W prog dd cx e (tOf ev trV) := fun A env th ls hp s b hp' R O I h => by
  unfold tOf at h
  split at h
  · rename_i v h1 q1
    split at h
    · rename_i b0 q2
      cases h
      refine isTrue_plain (then_post (he A env th ls hp s v _ R O I q1) fun c s1 ⟨t1, I1, g1, r1⟩ => ?_) (hp0 env _)
      exact tr_ok I1 r1 q2 fun k => ⟨rfl, t1, I1.toks k, g1⟩
    · cases h
  · cases h
theorem attrBase {o : PySem.Expr} {a : Str} {env : Env} {whole : Sem Value} (h : plainBase o = true) : attributeBase o a env whole = whole := by
  unfold attributeBase
  split
  · cases h
  · rfl
theorem s_Attr {o : PySem.Expr} {a : Str} {p : Pos} {ev : Ev} (hb : plainBase o = true) (he : ES W prog dd cx o ev) : ES W prog dd cx (.Attribute o a p) (e1 (attrV a) ev) := fun A env th ls hp s v hp' R O I h => by
  unfold e1 at h
  split at h
  · rename_i x h1 q1
    rw [arm_eval_Attribute, attrBase hb]
    refine wpAny_bind (then_post (he A env th ls hp s x h1 R O I q1) fun c s1 ⟨t1, I1, g1, r1⟩ => wpAny_bind (wpAny_standAt (wpAny_bind (wpAny_holding (then_post (attr_ok I1 r1 h) fun r s2 p2 => ?_)))))
    exact wpAny_bind (wpAny_letTemporaryGo (wpAny_pure (p2.trans g1)))
  · cases h
theorem plain_sub {slice : PySem.Expr} (h : ∀ l u p, slice ≠ .Slice l u none p) (o i : Value) : ∃ ops, subscripted slice false o i = operate ops (getItem o i) := by
  cases slice with
  | Slice l u st p =>
    cases st with
    | none => exact absurd rfl (h l u p)
    | some st => exact ⟨_, rfl⟩
  | _ => exact ⟨_, rfl⟩
theorem s_Idx {o i : PySem.Expr} {p : Pos} {eo ei : Ev} (hi : ∀ l u p, i ≠ .Slice l u none p) (ho : ES W prog dd cx o eo) (k : ES W prog dd cx i ei) : ES W prog dd cx (.Subscript o i p) (e2 idxV eo ei) := fun A env th ls hp s v hp' R O I h => by
  unfold e2 at h
  split at h
  · rename_i x h1 q1
    split at h
    · rename_i y h2 q2
      refine Subscript_ (then_post (ho A env th ls hp s x h1 R O I q1) fun a s1 ⟨t1, I1, g1, r1⟩ => then_post (k A env t1 ls h1 s1 y h2 R (O.mono g1.pre) I1 q2) fun b s2 ⟨t2, I2, g2, r2⟩ => ?_)
      exact then_post (idx_ok I2 (r1.mono g2.pre) r2 h (plain_sub hi)) fun c s3 p3 => (p3.trans g2).trans g1
    · cases h
  · cases h
/-- an optional part -/
theorem opt_ok {e : Option PySem.Expr} {f : PySem.Expr → Ev} (k : ∀ e, ES W prog dd cx e (f e)) {env : Env} {x : Option V} (R : Rm A dd) (O : EnvOk cx th env) (I : Inv W env.locals th ls hp s) (h : eO (e.map f) ls hp = some (x, hp')) :
    wpAny (model prog W.w) A (valueOrNone (evalOpt e env)) (fun c s' => ∃ th', Inv W env.locals th' ls hp' s' ∧ Go env.locals th s.heap th' s'.heap ∧ ((x = none ∧ c = .none) ∨ ∃ v, x = some v ∧ VR th' v c)) NoE s := by
  cases e with
  | none =>
    cases h
    exact wpAny_pure ⟨th, I, Go.refl .., .inl ⟨rfl, rfl⟩⟩
  | some e =>
    simp only [Option.map_some, eO] at h
    split at h
    · rename_i v h1 q1
      cases h
      exact then_post (k e A env th ls hp s v _ R O I q1) fun c s1 ⟨t1, I1, g1, r1⟩ => ⟨t1, I1, g1, .inr ⟨v, rfl, r1⟩⟩
    · cases h
theorem part_of {l : Option V} {c : Value} {k n : Nat} (hl : lowOf l = some k ∨ hiOf n l = some k) (h : (l = none ∧ c = .none) ∨ ∃ v, l = some v ∧ VR th v c) : BR l c := by
  rcases h with ⟨rfl, rfl⟩ | ⟨v, rfl, r⟩
  · rfl
  · cases v <;> simp [lowOf, hiOf] at hl
    obtain ⟨t, rfl⟩ := r
    exact ⟨_, t, rfl, rfl⟩
theorem cut_bounds {sc : Addr × List Int} {v x : V} {l u : Option V} (h : cutV sc v l u hp = some (x, hp')) : (∃ k, lowOf l = some k) ∧ ∃ k n, hiOf n u = some k := by
  unfold cutV at h
  split at h
  · split at h
    · rename_i k1 k2 e1 e2; exact ⟨⟨_, e1⟩, _, _, e2⟩
    · cases h
  · split at h
    · split at h
      · rename_i k1 k2 e1 e2; exact ⟨⟨_, e1⟩, _, _, e2⟩
      · cases h
    · cases h
  · exact ⟨⟨0, rfl⟩, 40, 0, rfl⟩
  · cases h
theorem s_Cut (H : CxOk W prog dd cx) {o : PySem.Expr} {l u : Option PySem.Expr} {f : PySem.Expr → Ev} {p q : Pos} {eo : Ev} (ho : ES W prog dd cx o eo) (k : ∀ e, ES W prog dd cx e (f e)) :
    ES W prog dd cx (.Subscript o (.Slice l u none q) p) (eCut cx.sc eo (l.map f) (u.map f)) := fun A env th ls hp s v hp' R O I h => by
  unfold eCut at h
  split at h
  · rename_i x h1 q1
    split at h
    · rename_i xl h2 q2
      split at h
      · rename_i xu h3 q3
        refine Subscript_ (then_post (ho A env th ls hp s x h1 R O I q1) fun a s1 ⟨t1, I1, g1, r1⟩ => ?_)
        rw [arm_eval_Slice]
        refine wpAny_bind (then_post (opt_ok k R (O.mono g1.pre) I1 q2) fun cl s2 ⟨t2, I2, g2, r2⟩ => wpAny_bind (wpAny_holding (then_post (opt_ok k R ((O.mono g1.pre).mono g2.pre) I2 q3) fun cu s3 ⟨t3, I3, g3, r3⟩ => ?_)))
        refine wpAny_bind (wpAny_holding (wpAny_pure ?_))
        obtain ⟨⟨k1, b1⟩, k2, n2, b2⟩ := cut_bounds h
        have B1 : BR xl cl := part_of (n := 0) (.inl b1) r2
        have B2 : BR xu cu := part_of (.inr b2) r3
        refine wpAny_newObj_type ?_ (by show 3 ≤ _; decide)
        rw [H.sc] at h
        exact then_post (cut_ok I3 ((r1.mono g2.pre).mono g3.pre) B1 B2 h) fun c s4 p4 => ((p4.trans g3).trans g2).trans g1
      · cases h
    · cases h
  · cases h
/-- the arguments, one by one -/
theorem args_ok {f : PySem.Expr → Ev} (k : ∀ e, ES W prog dd cx e (f e)) (ks : ∀ e p ls hp, f (.Starred e p) ls hp = none) {env : Env} {p : Pos} (R : Rm A dd) : ∀ (es : List PySem.Expr) (th : Th) (ls : Ls) (hp : Hp) (s : Shared) (vs : List V) (hp' : Hp), EnvOk cx th env → Inv W env.locals th ls hp s → eAll (es.map f) ls hp = some (vs, hp') →
    (backTo p (starEach es env)).any (·.1) = false ∧ wpAny (model prog W.w) A (spliced (backTo p (starEach es env))) (PostL W env.locals th ls hp' vs s) NoE s
  | [], th, ls, hp, s, vs, hp', O, I, h => by
      cases h
      exact ⟨rfl, spliced_nil ⟨th, I, Go.refl .., trivial⟩⟩
  | e :: es, th, ls, hp, s, vs, hp', O, I, h => by
      rw [List.map_cons, eAll] at h
      dsimp only at h
      split at h
      · rename_i v h1 q1
        split at h
        · rename_i us h2 q2
          cases h
          have hst : starEach (e :: es) env = (false, eval e env) :: starEach es env := by
            cases e <;> first | rfl | (rw [ks] at q1; cases q1)
          have hbk : backTo p (starEach (e :: es) env) = (false, eval e env) :: backTo p (starEach es env) := by
            rw [hst]; rfl
          rw [hbk]
          have step : ∀ (t1 : Th) (s1 : Shared), Go env.locals th s.heap t1 s1.heap → Inv W env.locals t1 ls h1 s1 → (backTo p (starEach es env)).any (·.1) = false ∧ wpAny (model prog W.w) A (spliced (backTo p (starEach es env))) (PostL W env.locals t1 ls hp' us s1) NoE s1 :=
            fun t1 s1 g1 I1 => args_ok k ks R es t1 ls h1 s1 us hp' (O.mono g1.pre) I1 q2
          have pl : (backTo p (starEach es env)).any (·.1) = false := by
            have : ∀ (es : List PySem.Expr) (ls : Ls) (hp : Hp) (us : List V) (h2 : Hp), eAll (es.map f) ls hp = some (us, h2) → (backTo p (starEach es env)).any (·.1) = false := by
              intro es
              induction es with
              | nil => intro _ _ _ _ _; rfl
              | cons e es ih =>
                intro ls hp us h2 h
                rw [List.map_cons, eAll] at h
                dsimp only at h
                split at h
                · rename_i v h1 q1
                  split at h
                  · rename_i us' h2' q2
                    have hst : starEach (e :: es) env = (false, eval e env) :: starEach es env := by
                      cases e <;> first | rfl | (rw [ks] at q1; cases q1)
                    rw [hst]
                    show (false || (backTo p (starEach es env)).any (·.1)) = false
                    rw [ih _ _ _ _ q2]; rfl
                  · cases h
                · cases h
            exact this es ls h1 us _ q2
          refine ⟨by show (false || (backTo p (starEach es env)).any (·.1)) = false; rw [pl]; rfl, ?_⟩
          refine spliced_cons (then_post (k e A env th ls hp s v h1 R O I q1) fun c s1 ⟨t1, I1, g1, r1⟩ => ?_)
          exact then_post (step t1 s1 g1 I1).2 fun cs s2 ⟨t2, I2, g2, r2⟩ => ⟨t2, I2, g1.trans g2, r1.mono g2.pre, r2⟩
        · cases h
      · cases h
theorem s_List {es : List PySem.Expr} {p : Pos} {f : PySem.Expr → Ev} (k : ∀ e, ES W prog dd cx e (f e)) (ks : ∀ e p ls hp, f (.Starred e p) ls hp = none) : ES W prog dd cx (.List es p) (eS (newO .list) (es.map f)) := fun A env th ls hp s v hp' R O I h => by
  unfold eS at h
  split at h
  · rename_i vs h1 q1
    unfold newO at h
    split at h
    · rename_i z
      cases h
      refine List_ (then_post (args_ok k ks R es th ls hp s vs h1 O I q1).2 fun cs s1 ⟨t1, I1, g1, r1⟩ => ?_)
      exact then_post (newList_ok I1 r1 z) fun c s2 p2 => p2.trans g1
    · cases h
  · cases h
theorem s_Tuple {es : List PySem.Expr} {n : Nat} {p : Pos} {f : PySem.Expr → Ev} (k : ∀ e, ES W prog dd cx e (f e)) (ks : ∀ e p ls hp, f (.Starred e p) ls hp = none) : ES W prog dd cx (.Tuple es n p) (eS (newO .tuple) (es.map f)) := fun A env th ls hp s v hp' R O I h => by
  unfold eS at h
  split at h
  · rename_i vs h1 q1
    unfold newO at h
    split at h
    · rename_i z
      cases h
      refine Tuple_ (then_post (args_ok k ks R es th ls hp s vs h1 O I q1).2 fun cs s1 ⟨t1, I1, g1, r1⟩ => ?_)
      exact then_post (newTuple_ok I1 r1 z) fun c s2 p2 => p2.trans g1
    · cases h
  · cases h
/-- the arguments of a call -/
theorem evalArgs_ok {f : Value} {trees : List (Bool × Sem Value)} {Q : Args → Shared → Prop} (pl : trees.any (·.1) = false) (h : wpAny (model prog W.w) A (spliced trees) (fun vs s' => Q ⟨vs, []⟩ s') NoE s) :
    wpAny (model prog W.w) A (evalArgs f true trees []) Q NoE s := by
  cases trees with
  | nil =>
    unfold evalArgs
    show wpAny _ _ (spliced [] >>= _) _ _ _
    refine wpAny_bind (wpAny_mono h (fun vs s' h' => ?_) fun _ _ x => x)
    refine wpAny_holding ?_
    exact wpAny_bind (wpAny_pure (wpAny_bind (wpAny_pure (wpAny_pure h'))))
  | cons t r =>
    obtain ⟨b, x⟩ := t
    have hb : b = false := by
      rw [List.any_cons] at pl
      exact (Bool.or_eq_false_iff.mp pl).1
    subst hb
    exact evalArgs_plain h
theorem keeper_bi (b : Bi) (M : Model) (h : Heap) : Looks M h (keeperOf b.val) .machine := by
  cases b <;> exact Looks.of_pure rfl
theorem keeper_ref {P : Params} {a : Addr} (h : keepIn (KK P) (.ref a) = true) (M : Model) (hh : Heap) (X : (KK P).In hh) : ∃ k, (k = Keeper.frame ∨ k = Keeper.machine ∨ k = Keeper.boundFrame) ∧ Looks M hh (keeperOf (.ref a)) k := keeps_K h hh X
/-- a call, its arguments evaluated first -/
theorem call_ok {pos : Pos} {f : Value} {first : List Value} {trees : List (Bool × Sem Value)} {vs : List V} {h1 : Hp} {Q : Value → Shared → Prop} (pl : trees.any (·.1) = false)
    (hk : ∀ (M : Model) (h : Heap), (KK W.w.params).In h → ∃ k, (k = Keeper.frame ∨ k = Keeper.machine ∨ k = Keeper.boundFrame) ∧ Looks M h (keeperOf f) k)
    (ha : wpAny (model prog W.w) A (spliced trees) (PostL W L th ls h1 vs s) NoE s)
    (hc : ∀ cs t1 s1, Inv W L t1 ls h1 s1 → Go L th s.heap t1 s1.heap → VRs t1 vs cs → wpAny (model prog W.w) A (call f (first ++ cs)) Q NoE s1) :
    wpAny (model prog W.w) A (callWith pos f first trees []) Q NoE s := by
  refine callWith_of (P := fun h => (KK W.w.params).In h) (by rw [pl]; rfl) (fun h X => hk _ h X) (evalArgs_ok pl (wpAny_mono ha (fun cs s1 ⟨t1, I1, g1, r1⟩ => ⟨I1.kin, ?_⟩) fun _ _ x => x))
  exact hc cs t1 s1 I1 g1 r1
theorem s_Call (H : CxOk W prog dd cx) {x : Str} {es : List PySem.Expr} {p q : Pos} {f : PySem.Expr → Ev} (k : ∀ e, ES W prog dd cx e (f e)) (ks : ∀ e p ls hp, f (.Starred e p) ls hp = none) :
    ES W prog dd cx (.Call (.Name x q) es [] p) (e1S (callV cx.C) (eName cx x) (es.map f)) := fun A env th ls hp s v hp' R O I h => by
  unfold e1S at h
  split at h
  · rename_i fv h1 q1
    split at h
    · rename_i vs h2 q2
      show wpAny _ _ (do callWith p (← eval (.Name x q) env) [] (backTo p (starEach es env)) (backToKw p (keywordEach [] env))) _ _ _
      refine wpAny_bind (then_post (s_Name H A env th ls hp s fv h1 R O I q1) fun c s1 ⟨t1, I1, g1, r1⟩ => ?_)
      obtain ⟨pl, ha⟩ := args_ok k ks (p := p) R es t1 ls h1 s1 vs h2 (O.mono g1.pre) I1 q2
      unfold callV at h
      split at h
      · rename_i a
        cases r1
        refine call_ok pl (fun M hh X => keeper_ref (H.ok.2 _ _ _ _ h _) M hh X) ha fun cs t2 s2 I2 g2 r2 => ?_
        exact then_post (wpAny_call (H.ok.1 A env.locals t2 ls h2 s2 _ vs cs v hp' R I2 r2 h)) fun c s3 p3 => (p3.trans g2).trans g1
      · rename_i b
        cases r1
        refine call_ok pl (fun M hh X => ⟨_, .inr (.inl rfl), keeper_bi _ M hh⟩) ha fun cs t2 s2 I2 g2 r2 => ?_
        exact then_post (callB_ok R I2 r2 h) fun c s3 p3 => (p3.trans g2).trans g1
      · cases h
    · cases h
  · cases h
end
end Mine

open PySem PySem.W PyProof.Rows PySem.Calls
set_option Elab.async false
set_option maxRecDepth 100000
set_option maxHeartbeats 1000000
namespace Mine
section
variable {W : Wd} {prog : Program} {dd : Nat} {cx : Cx} {L : Addr} {th th' : Th} {ls : Ls} {hp hp' : Hp} {s : Shared} {A : Around} {P : Params}
structure MethFacts (K : Frag) (C : Addr) (name : Str) (f : Addr) : Prop where
  pg : plainGet K C name = true
  fi : findIn K (.ref C) name = some (some (.ref f))
  fn : isFn K (.ref f) = true
theorem mt_all : ∀ p ∈ MT, MethFacts (KK P) p.1.1 p.1.2 p.2 := by
  unfold MT
  simp only [List.map_cons, List.map_nil]
  repeat' (first
    | exact fun _ h => absurd h List.not_mem_nil
    | refine List.forall_mem_cons.mpr ⟨?_, ?_⟩)
  all_goals exact ⟨by kernel_rfl, by kernel_rfl, by kernel_rfl⟩
theorem lookup_mem2 {α β : Type} [BEq α] [LawfulBEq α] : ∀ {l : List (α × β)} {x : α} {v : β}, l.lookup x = some v → (x, v) ∈ l
  | [], _, _, e => by cases e
  | (y, u) :: r, x, v, e => by
    rw [List.lookup_cons] at e
    by_cases q : (x == y) = true
    · rw [q] at e; cases e; rw [eq_of_beq q]; exact .head _
    · rw [Bool.eq_false_iff.mpr q] at e; exact .tail _ (lookup_mem2 e)
theorem fr_miss {x : Str} : ∀ {fs : List (Str × V)} {es : List DictEntry}, FRs P th fs es → fget fs x = none → getL x es = some none
  | [], [], _, _ => rfl
  | (n, u) :: fs, e :: es, ⟨⟨t, c, q, r⟩, h⟩, z => by
      subst q
      unfold fget at z
      by_cases hn : n = x
      · rw [if_pos hn] at z; cases z
      · rw [if_neg hn] at z
        have := fr_miss h z
        unfold getL at this ⊢
        rw [List.find?_cons, List.any_cons]
        simp only [isStr_str]
        simpa [hn, DictEntry.refKey] using this
  | [], _ :: _, h, _ => h.elim
  | _ :: _, [], h, _ => h.elim
theorem strJoin_vals : ∀ {xs : List V} {vs : List Value} {b : List Nat}, VRs th xs vs → strJoin hp xs = some b → ∃ bs : List (Str × Tok), vs = strValues bs ∧ b = (bs.map (fun p => p.1.cps.toList)).flatten
  | [], [], _, _, e => by cases e; exact ⟨[], rfl, rfl⟩
  | x :: xs, v :: vs, b, ⟨h, r⟩, e => by
      cases x <;> simp only [strJoin] at e <;> try cases e
      rename_i c
      obtain ⟨t, rfl⟩ := h
      obtain ⟨b', e1, e2⟩ := Option.map_eq_some_iff.mp e
      obtain ⟨bs, q1, q2⟩ := strJoin_vals r e1
      exact ⟨(c, t) :: bs, by rw [q1]; rfl, by rw [← e2, q2]; rfl⟩
  | [], _ :: _, _, h, _ => h.elim
  | _ :: _, [], _, h, _ => h.elim
theorem join_empty : ∀ (l : List Str), (Str.join ⟨#[]⟩ l) = ⟨((l.map (fun p => p.cps.toList)).flatten).toArray⟩
  | [] => rfl
  | [x] => by cases x; simp [Str.join]
  | x :: y :: r => by
      rw [Str.join, join_empty (y :: r)]
      · refine Str.ext' ?_
        rw [Str.cps_append, Str.cps_append]
        simp
      · exact fun h => by cases h
theorem joinOk_empty (l : List Str) (h : ((l.map (fun p => p.cps.toList)).flatten).length ≤ 1000000) : JoinOk ⟨#[]⟩ l = true := by
  unfold JoinOk
  have key : ∀ (l : List Str) (k : Nat), l.foldl (fun (a : Nat) (x : Str) => a + x.length + (⟨#[]⟩ : Str).length) k = k + ((l.map (fun p => p.cps.toList)).flatten).length := by
    intro l
    induction l with
    | nil => intro k; simp
    | cons x r ih => intro k; rw [List.foldl_cons, ih]; simp [Str.length]; omega
  rw [List.foldl_toArray, key]
  unfold Builtin.Str.tooLong
  rw [← sizeLine_big, decide_eq_false (by omega)]
  rfl
theorem appV_inv {o : V} {vs : List V} {r : V × Hp} (e : appV o vs hp = some r) : ∃ i u ys, o = .ref i ∧ vs = [u] ∧ hp[i]? = some (.list ys) ∧ ys.length ≤ 1000000 ∧ r.1 = .none ∧ r.2 = hp.set i (.list (ys ++ [u])) := by
  unfold appV at e
  split at e
  · split at e
    · rename_i h
      split at e
      · rename_i z
        cases e
        exact ⟨_, _, _, rfl, rfl, h, z, rfl, rfl⟩
      · cases e
    · cases e
  · cases e
theorem extV_inv {o : V} {vs : List V} {r : V × Hp} (e : extV o vs hp = some r) : ∃ i j ys zs, o = .ref i ∧ vs = [.ref j] ∧ hp[i]? = some (.list ys) ∧ hp[j]? = some (.list zs) ∧ (ys.length ≤ 1000000 ∧ zs.length ≤ 1000000) ∧ r.1 = .none ∧ r.2 = hp.set i (.list (ys ++ zs)) := by
  unfold extV at e
  split at e
  · split at e
    · rename_i h h'
      split at e
      · rename_i z
        cases e
        exact ⟨_, _, _, _, rfl, rfl, h, h', z, rfl, rfl⟩
      · cases e
    · cases e
  · cases e
theorem joiV_inv {α : Type} {f : Hp → List V → Option (List α)} {g : List α → V} {vs : List V} {r : V × Hp} (e : joiV f g vs hp = some r) : ∃ j ys b, vs = [.ref j] ∧ hp[j]? = some (.list ys) ∧ f hp ys = some b ∧ (ys.length ≤ 1000000 ∧ b.length ≤ 1000000) ∧ r.1 = g b ∧ r.2 = hp := by
  unfold joiV at e
  split at e
  · split at e
    · rename_i h
      split at e
      · rename_i hb
        split at e
        · rename_i z
          cases e
          exact ⟨_, _, _, rfl, h, hb, z, rfl, rfl⟩
        · cases e
      · cases e
    · cases e
  · cases e
theorem s_Meth (H : CxOk W prog dd cx) {o : PySem.Expr} {m : Str} {ap p : Pos} {es : List PySem.Expr} {eo : Ev} {f : PySem.Expr → Ev} (hb : plainBase o = true) (hl : (ap.endLine == p.line) = true) (hn : es.length ≤ 5) (ho : ES W prog dd cx o eo)
    (k : ∀ e, ES W prog dd cx e (f e)) (ks : ∀ e p ls hp, f (.Starred e p) ls hp = none) : ES W prog dd cx (.Call (.Attribute o m ap) es [] p) (eMeth cx.C m eo (es.map f)) := fun A env th ls hp s v hp' R O I h => by
  unfold eMeth at h
  split at h
  · rename_i ov h1 q1
    split at h
    · rename_i mk q2
      split at h
      · rename_i vs h2 q3
        rw [arm_eval_Call, attrBase hb]
        refine wpAny_bind (then_post (ho A env th ls hp s ov h1 R O I q1) fun c s1 ⟨t1, I1, g1, r1⟩ => wpAny_bind (wpAny_standAt ?_))
        obtain ⟨pl, ha⟩ := args_ok k ks (p := p) R es t1 ls h1 s1 vs h2 (O.mono g1.pre) I1 q3
        unfold methodCall
        have hform : methodCallForm (es.length + ([] : List Keyword).length) (backTo p (starEach es env)) (backToKw p (keywordEach [] env)) = true := by
          unfold methodCallForm
          have : (backTo p (starEach es env)).all (fun x => !x.1) = true := by
            rw [List.all_eq_true]
            intro x hx
            have := List.any_eq_false.mp pl x hx
            simpa using this
          rw [this]
          simp [backToKw, keywordEach]; omega
        rw [hform]
        -- which callee
        have callee : ∀ (g : Value) (Q : Value × List Value → Shared → Prop), (∀ pl : Sem Bool, wpAny (model prog W.w) A (getMethod c m pl) Q NoE s1) → wpAny (model prog W.w) A (holding [c] (calleeOf true o env c m)) Q NoE s1 := fun g Q hq => wpAny_holding (hq _)
        have posn : methodCallPos true o env ap p = pure p := by
          unfold methodCallPos
          rw [hl]; rfl
        have rest : ∀ (g : Value) (Q : Value → Shared → Prop), (∀ (M : Model) (h : Heap), (KK W.w.params).In h → ∃ k, (k = Keeper.frame ∨ k = Keeper.machine ∨ k = Keeper.boundFrame) ∧ Looks M h (keeperOf g) k) →
            (∀ cs t2 s2, Inv W env.locals t2 ls h2 s2 → Go env.locals t1 s1.heap t2 s2.heap → VRs t2 vs cs → wpAny (model prog W.w) A (call g ([c] ++ cs)) Q NoE s2) →
            (∀ pl : Sem Bool, ∀ {Q : Value × List Value → Shared → Prop}, Q (g, [c]) s1 → wpAny (model prog W.w) A (getMethod c m pl) Q NoE s1) →
            wpAny (model prog W.w) A (holding [c] (calleeOf true o env c m) >>= fun x => (match x with | (f, first) => methodCallPos true o env ap p >>= fun callPos => callWith callPos f first (backTo p (starEach es env)) (backToKw p (keywordEach [] env)))) Q NoE s1 := by
          intro g Q hk hc hm
          refine wpAny_bind (callee g _ fun pb => hm pb ?_)
          dsimp only
          rw [posn]
          exact wpAny_bind (wpAny_pure (call_ok pl hk ha hc))
        unfold methR at q2
        split at q2
        · split at q2
          · rename_i C fs ei
            split at q2
            · rename_i fa e1 e2
              cases q2
              obtain ⟨x, dx, rfl, tx, ox⟩ := I1.at ei r1
              obtain ⟨dx, es', kk, _, J, gg, r⟩ := ox.inst
              have mf := mt_all (P := W.w.params) _ (lookup_mem2 e1)
              obtain ⟨mm, F, _⟩ := I1.lo
              have hmiss := fr_miss r e2
              refine rest (.ref fa) _ (fun M hh X => keeper_ref (H.ok.2 _ _ _ _ h _) M hh X) (fun cs t2 s2 I2 g2 r2 => ?_) (fun pl Q hq => method_inst F W.kin J mf.pg mf.fi mf.fn hmiss hq)
              exact then_post (wpAny_call (H.ok.1 A env.locals t2 ls h2 s2 fa (_ :: vs) (_ :: cs) v hp' R I2 ⟨r1.mono g2.pre, r2⟩ h)) fun c s3 p3 => (p3.trans g2).trans g1
            · cases q2
          · rename_i xs ei
            have lst : ∀ (id : String) (slot : Slot "list" m id) (hty : typeOf (.builtin id) = pure (.type "method_descriptor")) (pl : Sem Bool) {Q : Value × List Value → Shared → Prop}, Q (.builtin id, [c]) s1 → wpAny (model prog W.w) A (getMethod c m pl) Q NoE s1 := by
              intro id slot hty pl Q hq
              obtain ⟨x, dx, rfl, tx, ox⟩ := I1.at ei r1
              obtain ⟨us, n, gg, rr⟩ := ox.isLst
              exact getMethod_builtin (T := "list") ⟨_, gg, rfl⟩ PySem.F.plainAttrs_list slot hty (fun a e => by cases e; exact ⟨_, gg, rfl⟩) hq
            split at q2
            · rename_i hm
              cases q2
              subst hm
              refine rest (.builtin "list.append") _ (fun M hh X => ⟨_, .inr (.inl rfl), Looks.of_pure rfl⟩) (fun cs t2 s2 I2 g2 r2 => ?_) (fun pl Q hq => lst _ F.slot_list_append F.type_list_append pl hq)
              obtain ⟨j, u, ys, eo, rfl, ey, z, rfl, rfl⟩ := appV_inv h
              cases eo
              obtain ⟨cu, rfl, ru⟩ := vrs1 r2
              exact then_post (append_ok I2 (r1.mono g2.pre) ru ey z) fun c s3 p3 => (p3.trans g2).trans g1
            · split at q2
              · rename_i hm
                cases q2
                subst hm
                refine rest (.builtin "list.extend") _ (fun M hh X => ⟨_, .inr (.inl rfl), Looks.of_pure rfl⟩) (fun cs t2 s2 I2 g2 r2 => ?_) (fun pl Q hq => lst _ F.slot_list_extend F.type_list_extend pl hq)
                obtain ⟨j, q, ys, zs, eo, rfl, ey, ez, z, rfl, rfl⟩ := extV_inv h
                cases eo
                obtain ⟨cu, rfl, ru⟩ := vrs1 r2
                exact then_post (extend_ok I2 (r1.mono g2.pre) ru ey ez z) fun c s3 p3 => (p3.trans g2).trans g1
              · cases q2
          · cases q2
        · split at q2
          · rename_i hm
            cases q2
            subst hm
            obtain ⟨t, rfl⟩ := r1
            refine rest (.builtin "bytes.join") _ (fun M hh X => ⟨_, .inr (.inl rfl), Looks.of_pure rfl⟩) (fun cs t2 s2 I2 g2 r2 => ?_) (fun pl Q hq => getMethod_builtin (T := "bytes") (typeIs_bytes _ _ _) FB.plainAttrs_bytes slot_bjoin type_bjoin (fun _ e => nomatch e) hq)
            obtain ⟨j, ys, b, rfl, ey, eb, z, rfl, rfl⟩ := joiV_inv h
            obtain ⟨cu, rfl, ru⟩ := vrs1 r2
            obtain ⟨x, dx, rfl, tx, ox⟩ := I2.at ey ru
            obtain ⟨us, la, ra⟩ := ox.isList
            obtain ⟨bs, e1, e2⟩ := byteJoin_vals ra eb
            refine bjoin_ok (bs := bs) (by rw [← e1]; exact la) (by rw [← e2]; exact z.2) fun u kk => ?_
            rw [← e2]
            exact Post.trans g1 (Post.trans g2 (I2.postT (k := kk) ⟨u, rfl⟩))
          · cases q2
        · split at q2
          · rename_i hm
            cases q2
            obtain ⟨hm, hx⟩ := hm
            subst hm
            subst hx
            obtain ⟨t, rfl⟩ := r1
            refine rest (.builtin "str.join") _ (fun M hh X => ⟨_, .inr (.inl rfl), Looks.of_pure rfl⟩) (fun cs t2 s2 I2 g2 r2 => ?_) (fun pl Q hq => GM.join hq)
            obtain ⟨j, ys, b, rfl, ey, eb, z, rfl, rfl⟩ := joiV_inv h
            obtain ⟨cu, rfl, ru⟩ := vrs1 r2
            obtain ⟨x, dx, rfl, tx, ox⟩ := I2.at ey ru
            obtain ⟨us, la, ra⟩ := ox.isList
            obtain ⟨bs, e1, e2⟩ := strJoin_vals ra eb
            refine SC.join (l := bs) (by rw [← e1]; exact la) rfl (joinOk_empty _ (by rw [List.map_map]; rw [e2] at z; exact z.2)) fun u kk => ?_
            have ej : Txt.join ⟨#[]⟩ (bs.map (·.1)) = ⟨b.toArray⟩ := by
              refine (eq_of_beq (join_plain_closes _ _)).trans ((join_empty _).trans ?_)
              rw [e2, List.map_map]; rfl
            rw [ej]
            exact Post.trans g1 (Post.trans g2 (I2.postT (k := kk) ⟨u, rfl⟩))
          · cases q2
        · cases q2
      · cases h
    · cases h
  · cases h
end
end Mine

open PySem PySem.W PyProof.Rows PySem.Calls
set_option Elab.async false
set_option maxRecDepth 100000
set_option maxHeartbeats 1000000
namespace Mine
/-- an iterator over abstract values -/
structure Src (W : Wd) (prog : Program) (A : Around) (I : Addr) (th0 : Th) (vals : List V) (chk : Hp → Prop) (St : Nat → Heap → Prop) : Prop where
  frame : ∀ k h h', St k h → (∀ o, h.get? I = some o → h'.get? I = some o) → St k h'
  item : ∀ (k : Nat) (v : V) (L : Addr) (th : Th) (ls : Ls) (hp : Hp) (s : Shared) (Q : Option Value → Shared → Prop), Inv W L th ls hp s → th0 <+: th → chk hp → vals[k]? = some v → St k s.heap →
    (∀ c h' tk, VR th v c → St (k + 1) h' → (∀ b o, b ≠ I → s.heap.get? b = some o → h'.get? b = some o) → Q (some c) { s with heap := h', toks := tk }) → wpAny (model prog W.w) A (pyNext (.ref I)) Q NoE s
  done : ∀ (L : Addr) (th : Th) (ls : Ls) (hp : Hp) (s : Shared) (Q : Option Value → Shared → Prop), Inv W L th ls hp s → th0 <+: th → chk hp → St vals.length s.heap →
    (∀ h' tk, (∀ b o, b ≠ I → s.heap.get? b = some o → h'.get? b = some o) → Q none { s with heap := h', toks := tk }) → wpAny (model prog W.w) A (pyNext (.ref I)) Q NoE s
  live : ∀ k h, St k h → ∃ o, h.get? I = some o
  self : ∀ (k : Nat) (s : Shared) (Q : Value → Shared → Prop), St k s.heap → Q (.ref I) s → wpAny (model prog W.w) A (pyIter (.ref I)) Q NoE s
section
variable {W : Wd} {prog : Program} {dd : Nat} {cx : Cx} {L : Addr} {th th' : Th} {ls : Ls} {hp hp' : Hp} {s : Shared} {A : Around} {P : Params}
theorem src_walks {I : Addr} {vals : List V} {P : Nat → Value → Prop} {St : Nat → Heap → Prop} (X : Walks prog W.w A I [I] [I] vals.length P St) (hlv : ∀ k h, St k h → ∃ o, h.get? I = some o) (hv : ∀ (k : Nat) v c th, vals[k]? = some v → P k c → VR th v c) : Src W prog A I [] vals (fun _ => True) St where
  frame := fun k h h' st e => X.frame k h h' st fun b hb o g => by simp at hb; subst hb; exact e o g
  item := fun k v L th ls hp s Q I0 _ _ e st hQ => X.item k s Q _ (List.getElem?_eq_some_iff.mp e).1 st fun c h' tk hc st' hk => hQ c h' tk (hv k v c th e hc) st' fun b o hb g => hk b o (by simpa using hb) g
  done := fun L th ls hp s Q I0 _ _ st hQ => X.done s Q _ st fun h' tk hk => hQ h' tk fun b o hb g => hk b o (by simpa using hb) g
  live := hlv
  self := fun k s Q st hQ => X.self k s Q _ st hQ
theorem src_bytes (hh : A.handled = none) (I : Addr) (d : List UInt8) (t : Tok) : Src W prog A I [] (d.map fun c => V.int c.toNat) (fun _ => True) (fun i h => KBw.IsBytesIter h I d.toArray t i) := by
  have X := KBw.walks (prog := prog) (w := W.w) hh I d.toArray t
  have e : d.toArray.size = (d.map fun c => V.int c.toNat).length := by simp
  rw [e] at X
  refine src_walks X (fun k h ⟨o, g, _⟩ => ⟨o, g⟩) fun k v c th hv ⟨b, u, hb, hc⟩ => ?_
  subst hc
  rw [List.getElem?_map] at hv
  have hb' : d[k]? = some b := by simpa using hb
  rw [hb'] at hv
  cases hv
  exact ⟨u, rfl⟩
theorem src_range (hh : A.handled = none) (I : Addr) (c : Int) (n : Nat) : Src W prog A I [] ((List.range n).map fun k : Nat => V.int (0 + (k : Int) * c)) (fun _ => True) (fun i h => IsRangeIter h I (0 + (i : Nat) * c) ((n : Int) - (i : Nat)) c) := by
  have X := Walks.range (prog := prog) (w := W.w) hh I 0 c n
  have e : n = ((List.range n).map fun k : Nat => V.int (0 + (k : Int) * c)).length := by simp
  have Y : Walks prog W.w A I [I] [I] ((List.range n).map fun k : Nat => V.int (0 + (k : Int) * c)).length (fun i v => ∃ t, v = .int (0 + i * c) t) (fun i h => IsRangeIter h I (0 + (i : Nat) * c) ((n : Int) - (i : Nat)) c) := e ▸ X
  refine src_walks Y (fun k h g => ⟨_, g⟩) fun k v cc th hv ⟨t, hc⟩ => ?_
  subst hc
  rw [List.getElem?_map] at hv
  obtain ⟨k', h1, h2⟩ := Option.map_eq_some_iff.mp hv
  have hk : k' = k := by
    have := List.getElem?_eq_some_iff.mp h1
    obtain ⟨hlt, he⟩ := this
    simpa using he.symm
  subst hk
  subst h2
  exact ⟨t, rfl⟩
theorem src_list (hh : A.handled = none) (I : Addr) {i : Nat} {ax : Addr} {da : Option Addr} {xs : List V} {th0 : Th} (hi : th0[i]? = some (ax, da)) : Src W prog A I th0 xs (fun hp => hp[i]? = some (.list xs)) (fun k h => h.IsListIter I ax k) where
  frame := fun k h h' st e => st.at fun o g => e o g
  item := fun k v L th ls hp s Q I0 pre hc e st hQ => by
    obtain ⟨p, h1, h2⟩ := I0.hr.obj hc
    rw [get_pre pre hi] at h1; cases h1
    obtain ⟨vs, la, ra⟩ := h2.isList
    obtain ⟨c, q1, q2⟩ := ra.get e
    refine wpAny_pyNext_list_item st la (x := c) (by simpa using q1) fun h' hit' hs' => hQ c h' s.toks q2 hit' fun b o hb g => (hs'.2 b hb).trans g
  done := fun L th ls hp s Q I0 pre hc st hQ => by
    obtain ⟨p, h1, h2⟩ := I0.hr.obj hc
    rw [get_pre pre hi] at h1; cases h1
    obtain ⟨vs, la, ra⟩ := h2.isList
    refine wpAny_pyNext_list_end hh st la (by have := ra.length; simp; omega) fun h' he' => hQ h' s.toks fun b o hb g => he' b o hb g
  live := fun k h ⟨o, g, _⟩ => ⟨o, g⟩
  self := fun k s Q st hQ => wpAny_pyIter_listiter st hQ
theorem Src.of_pre {I : Addr} {th0 th1 : Th} {vals : List V} {chk : Hp → Prop} {St : Nat → Heap → Prop} (S : Src W prog A I th0 vals chk St) (p : th0 <+: th1) : Src W prog A I th1 vals chk St :=
  ⟨S.frame, fun k v L th ls hp s Q I0 pre => S.item k v L th ls hp s Q I0 (p.trans pre), fun L th ls hp s Q I0 pre => S.done L th ls hp s Q I0 (p.trans pre), S.live, S.self⟩
theorem Go.exceptI {L I : Addr} {th0 th : Th} {h0 h h' : Heap} (g : Go L th0 h0 th h) (hI : h0.get? I = none) (hk : ∀ b o, b ≠ I → h.get? b = some o → h'.get? b = some o) : Go L th0 h0 th h' where
  pre := g.pre
  ext := fun b o hb hL e => hk b o (fun q => by rw [q, hI] at e; cases e) (g.ext b o hb hL e)
  new := g.new
  alive := fun b o e => by
    obtain ⟨o', e'⟩ := g.alive b o e
    exact ⟨o', hk b o' (fun q => by rw [q, hI] at e; cases e) e'⟩
theorem Inv.exceptI (I0 : Inv W L th ls hp s) {I : Addr} {h' : Heap} {tk : Nat} (hA : I ∉ AS th) (hL : I ≠ L) (h0 : W.h0.get? I = none) (hk : ∀ b o, b ≠ I → s.heap.get? b = some o → h'.get? b = some o) : Inv W L th ls hp { s with heap := h', toks := tk } := by
  obtain ⟨m, F, hm⟩ := I0.lo
  refine ⟨⟨I0.hr.len, fun i p o hp ho => (I0.hr.at_ i p o hp ho).move (List.prefix_refl _) fun a ha ob e => hk a ob (fun q => hA (q ▸ List.mem_flatMap.mpr ⟨p, List.mem_of_getElem? hp, ha⟩)) e, I0.hr.nd, I0.hr.off,
    fun b o e => hk b o (fun q => by rw [q, h0] at e; cases e) (I0.hr.keep b o e)⟩, ⟨m, ⟨?_, fun b o e => hk b o (fun q => by rw [q, h0] at e; cases e) (F.keep b o e), F.above⟩, hm⟩, I0.off, I0.gens, I0.os⟩
  obtain ⟨o, es, ep, g, q⟩ := F.ns
  exact ⟨o, es, ep, hk _ _ (Ne.symm hL) g, q⟩
theorem Inv.weak {ls' : Ls} (I : Inv W L th ls hp s) (h : ∀ y u, ls' y = some u → ls y = some u) : Inv W L th ls' hp s := ⟨I.hr, let ⟨m, F, hm⟩ := I.lo; ⟨m, F, fun y u e => hm y u (h y u e)⟩, I.off, I.gens, I.os⟩
/-- a name is stored -/
theorem store_ok {env : Env} {x : Str} {v : V} {c : Value} {E : Value → Shared → Prop} (I : Inv W env.locals th ls hp s) (hv : VR th v c) (hk : env.scope.kind = .function) (hx : env.kindOf x = some .local) {Q : Unit → Shared → Prop}
    (hQ : ∀ h' tk, Inv W env.locals th (bind1 x v ls) hp { s with heap := h', toks := tk } → Heap.SameBut env.locals s.heap h' → Go env.locals th s.heap th h' → Q () { s with heap := h', toks := tk }) : wpAny (model prog W.w) A (storeName env x c) Q E s := by
  obtain ⟨m, F, hm⟩ := I.lo
  refine wpAny_storeName_local hx F.ns (fun h' hn hs => ?_) (by rw [hk]; rfl)
  have hkk : ∀ b o, b ≠ env.locals → s.heap.get? b = some o → h'.get? b = some o := fun b o n e => (hs.2 b n).trans e
  have F' : Fr W.h0 env.locals h' (fun y => if y = x then some c else m y) := F.set hn hs
  have l : ∃ o, h'.get? env.locals = some o := let ⟨o, _, _, g, _⟩ := F'.ns; ⟨o, g⟩
  refine hQ h' _ ⟨I.hr.stays I.off I.off0 hkk, ⟨_, F', fun y u e => ?_⟩, I.off, I.gens, I.os⟩ hs (Go.stays hkk l)
  unfold bind1 at e
  by_cases q : y = x
  · rw [if_pos q] at e; cases e; exact ⟨c, if_pos q, hv⟩
  · rw [if_neg q] at e
    obtain ⟨c', a, b⟩ := hm y u e
    exact ⟨c', (if_neg q).trans a, b⟩
end
end Mine

open PySem PySem.W PyProof.Rows PySem.Calls
set_option Elab.async false
set_option maxRecDepth 100000
set_option maxHeartbeats 1000000
namespace Mine
section
variable {W : Wd} {prog : Program} {dd : Nat} {cx : Cx} {L : Addr} {th th' : Th} {ls : Ls} {hp hp' : Hp} {s : Shared} {A : Around} {P : Params}
/-- what is free in a comprehension stands in the def's cells -/
theorem closure_ok {env : Env} : ∀ (names : List (Str × NameKind)), (∀ p ∈ names, p.2 = .free → ∃ c, env.cells.lookup p.1 = some c) →
    ∃ cl : List (Str × Addr), (∀ acc : List (Str × Addr), (forIn names acc (fun (x : Str × NameKind) (cs : List (Str × Addr)) => if (x.2 == NameKind.free) = true then (do let c ← cellOf env x.1; pure (ForInStep.yield ((x.1, c) :: cs))) else pure (ForInStep.yield cs)) : Sem (List (Str × Addr))) = pure (cl ++ acc)) ∧
      (∀ p ∈ cl, env.cells.lookup p.1 = some p.2) ∧ ∀ p ∈ names, p.2 = .free → ∃ c, (p.1, c) ∈ cl
  | [], _ => ⟨[], fun acc => by rw [List.forIn_nil]; rfl, (fun _ h => nomatch h), fun _ h => nomatch h⟩
  | (n, k) :: r, h => by
    obtain ⟨cl, c1, c2, c3⟩ := closure_ok r fun p hp => h p (.tail _ hp)
    by_cases hk : k = .free
    · subst hk
      obtain ⟨c, hc⟩ := h (n, .free) (.head _) rfl
      refine ⟨cl ++ [(n, c)], fun acc => ?_, fun p hp => ?_, fun p hp hf => ?_⟩
      · rw [List.forIn_cons]
        have e : cellOf env n = pure c := by unfold cellOf; dsimp only at hc; rw [hc]
        simp only [beq_self_eq_true, if_true, e, pure_bind]
        rw [c1, List.append_assoc]; rfl
      · rcases List.mem_append.mp hp with q | q
        · exact c2 p q
        · simp at q; subst q; exact hc
      · cases hp with
        | head => exact ⟨c, List.mem_append_right _ (.head _)⟩
        | tail _ hp => obtain ⟨c', q⟩ := c3 p hp hf; exact ⟨c', List.mem_append_left _ q⟩
    · refine ⟨cl, fun acc => ?_, c2, fun p hp hf => ?_⟩
      · rw [List.forIn_cons]
        have e : (k == NameKind.free) = false := by simpa using hk
        simp only [e, Bool.false_eq_true, if_false, pure_bind]
        exact c1 acc
      · cases hp with
        | head => exact absurd hf hk
        | tail _ hp => exact c3 p hp hf
theorem closureFor_ok {env : Env} {scope : Scope} (h : ∀ p ∈ scope.names, p.2 = .free → ∃ c, env.cells.lookup p.1 = some c) :
    ∃ cl : List (Str × Addr), closureFor scope env = pure cl ∧ (∀ p ∈ cl, env.cells.lookup p.1 = some p.2) ∧ ∀ p ∈ scope.names, p.2 = .free → ∃ c, (p.1, c) ∈ cl := by
  obtain ⟨cl, c1, c2, c3⟩ := closure_ok scope.names h
  refine ⟨cl, ?_, c2, c3⟩
  unfold closureFor
  have := c1 []
  rw [List.append_nil] at this
  show (forIn scope.names [] _ >>= _) = _
  rw [show (forIn scope.names ([] : List (Str × Addr)) (fun (x : Str × NameKind) (cs : List (Str × Addr)) => _) : Sem (List (Str × Addr))) = pure cl from this]
  rfl
theorem lookup_all {α : Type} {l : List (Str × α)} {n : Str} {c : α} (h : ∃ c', (n, c') ∈ l) (k : ∀ p ∈ l, p.1 = n → p.2 = c) : l.lookup n = some c := by
  induction l with
  | nil => obtain ⟨_, h⟩ := h; cases h
  | cons p r ih =>
    obtain ⟨m, a⟩ := p
    rw [List.lookup_cons]
    by_cases q : (n == m) = true
    · rw [q]
      exact congrArg some (k (m, a) (.head _) (eq_of_beq q).symm)
    · rw [Bool.eq_false_iff.mpr q]
      refine ih ?_ fun p hp => k p (.tail _ hp)
      obtain ⟨c', h⟩ := h
      cases h with
      | head => exact absurd (beq_self_eq_true n) q
      | tail _ h => exact ⟨c', h⟩
structure FreeOk (cx : Cx) (sc : Scope) (x : Str) : Prop where
  kind : sc.kind = .function
  kinds : ∀ p ∈ sc.names, p.2 = .free ∨ p.2 = .local ∨ p.2 = .globalImplicit
  free : ∀ p ∈ sc.names, p.2 = .free → cx.names.lookup p.1 = some .cell ∧ ∃ i, cx.cells.lookup p.1 = some i
  loc : ∀ p ∈ sc.names, p.2 = .local → sc.names.lookup p.1 = some .local
  x : sc.names.lookup x = some .local
  dbg : sc.names.lookup (Str.ofString "__debug__") = none
theorem freeOk_of {sc : Scope} {x : Str} (h : freeOk cx sc x = true) : FreeOk cx sc x := by
  unfold freeOk at h
  simp only [Bool.and_eq_true, List.all_eq_true, Bool.or_eq_true, beq_iff_eq, bne_iff_ne, ne_eq] at h
  obtain ⟨⟨⟨h1, h2⟩, h3⟩, h4⟩ := h
  refine ⟨h1, fun p hp => ?_, fun p hp hf => ?_, fun p hp hf => ?_, h3, h4⟩
  · obtain ⟨⟨a, b⟩, c⟩ := h2 p hp
    rcases a with (a | a) | a
    · exact .inl a
    · exact .inr (.inl a)
    · exact .inr (.inr a)
  · obtain ⟨⟨a, b⟩, c⟩ := h2 p hp
    rcases b with b | b
    · exact absurd hf b
    · exact ⟨b.1, Option.isSome_iff_exists.mp b.2⟩
  · obtain ⟨⟨a, b⟩, c⟩ := h2 p hp
    rcases c with c | c
    · exact absurd hf c
    · exact c
theorem relabel_names {env : Env} {sc : Scope} {x : Str} (f : FreeOk cx sc x) (O : EnvOk cx th env) : (relabel sc env).names = (subCx cx sc).names := by
  show sc.names.map _ = sc.names.map _
  apply List.map_congr_left
  intro p hp
  obtain ⟨n, k⟩ := p
  have hk := f.kinds _ hp
  by_cases q : k = .free
  · subst q
    have e : env.kindOf n = some .cell := by unfold Env.kindOf; rw [O.names]; exact (f.free _ hp rfl).1
    simp [e, O.kind]
  · have q' : (k == NameKind.free) = false := by simpa using q
    dsimp only at hk
    rcases hk with hk | hk | hk
    · exact absurd hk q
    · subst hk; simp
    · subst hk; simp
theorem lookup_filter {α : Type} {l : List (Str × α)} {q : Str → Bool} {n : Str} {v : α} (h : (l.filter fun p => q p.1).lookup n = some v) : q n = true ∧ l.lookup n = some v := by
  induction l with
  | nil => cases h
  | cons p r ih =>
    obtain ⟨m, a⟩ := p
    rw [List.filter_cons] at h
    by_cases hq : q m = true
    · rw [if_pos hq, List.lookup_cons] at h
      rw [List.lookup_cons]
      by_cases e : (n == m) = true
      · rw [e] at h ⊢
        rw [eq_of_beq e]; exact ⟨hq, h⟩
      · rw [Bool.eq_false_iff.mpr e] at h ⊢
        exact ih h
    · rw [if_neg hq] at h
      obtain ⟨a1, a2⟩ := ih h
      refine ⟨a1, ?_⟩
      rw [List.lookup_cons]
      have e : (n == m) = false := by
        apply Bool.eq_false_iff.mpr
        intro e
        rw [eq_of_beq e] at a1
        exact hq a1
      rw [e]; exact a2
theorem comp_env {env : Env} {sc : Scope} {x : Str} {cl : List (Str × Addr)} {C : Addr} (f : FreeOk cx sc x) (O : EnvOk cx th env) (c2 : ∀ p ∈ cl, env.cells.lookup p.1 = some p.2) (c3 : ∀ p ∈ sc.names, p.2 = .free → ∃ c, (p.1, c) ∈ cl) : EnvOk (subCx cx sc) th (compEnvC sc cl C env) := by
  refine ⟨f.kind, O.glob, O.blt, relabel_names f O, fun y i hy => ?_⟩
  obtain ⟨h1, h2⟩ := lookup_filter (q := fun n => sc.names.contains (n, .free)) hy
  obtain ⟨c, d, q1, q2⟩ := O.cells y i h2
  refine ⟨c, d, q1, lookup_all (c3 (y, .free) (by simpa using h1) rfl) fun p hp e => ?_⟩
  have := c2 p hp
  rw [e, q2] at this
  exact (Option.some.inj this).symm
theorem comp_dbg {sc : Scope} {x : Str} (f : FreeOk cx sc x) : (subCx cx sc).names.lookup (Str.ofString "__debug__") = none := by
  have : ∀ (l : List (Str × NameKind)) (n : Str), l.lookup n = none → (l.map fun p => (p.1, match p.2 with | .free => NameKind.cell | k => k)).lookup n = none := by
    intro l n
    induction l with
    | nil => intro _; rfl
    | cons p r ih =>
      obtain ⟨m, k⟩ := p
      intro h
      rw [List.lookup_cons] at h
      rw [List.map_cons, List.lookup_cons]
      cases e : n == m with
      | true => rw [e] at h; cases h
      | false => rw [e] at h; exact ih h
  exact this _ _ f.dbg
theorem comp_cx (H : CxOk W prog dd cx) {sc : Scope} {x : Str} (f : FreeOk cx sc x) : CxOk W prog dd (subCx cx sc) := ⟨H.sc, H.ok, comp_dbg f⟩
end
end Mine

open PySem PySem.W PyProof.Rows PySem.Calls
set_option Elab.async false
set_option maxRecDepth 100000
set_option maxHeartbeats 1000000
namespace Mine
section
variable {W : Wd} {prog : Program} {dd : Nat} {cx : Cx} {L : Addr} {th th' : Th} {ls : Ls} {hp hp' : Hp} {s : Shared} {A : Around} {P : Params}
/-- where a comprehension stands between its turns -/
structure CI (W : Wd) (L C D I : Addr) (l : Nat) (th0 : Th) (s0 : Shared) (St : Nat → Heap → Prop) (k : Nat) (hp : Hp) (s : Shared) : Prop where
  ex : ∃ th ls, Inv W C th ls hp s ∧ Go L th0 s0.heap th s.heap ∧ th[l]? = some (D, none) ∧ I ∉ AS th ∧ L ∉ AS th
  st : St k s.heap
  keepL : ∀ o, s0.heap.get? L = some o → s.heap.get? L = some o
theorem go_join {L C : Addr} {t0 t1 t2 : Th} {h0 h1 h2 : Heap} (a : Go L t0 h0 t1 h1) (b : Go C t1 h1 t2 h2) (fC : h0.get? C = none) : Go L t0 h0 t2 h2 where
  pre := a.pre.trans b.pre
  ext := fun x o hx hL e => by
    refine b.ext x o (fun q => ?_) (fun q => by rw [q, fC] at e; cases e) (a.ext x o hx hL e)
    rcases a.new x q with q | q
    · exact hx q
    · rw [q] at e; cases e
  new := fun x hx => by
    rcases b.new x hx with q | q
    · exact a.new x q
    · refine .inr ?_
      cases e : h0.get? x with
      | none => rfl
      | some o => obtain ⟨o', e'⟩ := a.alive x o e; rw [q] at e'; cases e'
  alive := fun x o e => let ⟨o', e'⟩ := a.alive x o e; b.alive x o' e'
theorem comp_core (H : CxOk W prog dd cx) (R : Rm A dd) {sc : Scope} {x : Str} {px pos : Pos} {elt iter : PySem.Expr} {eelt : Ev} (f : FreeOk cx sc x) (kelt : ES W prog dd (subCx cx sc) elt eelt) {env : Env} {cl : List (Str × Addr)} (O : EnvOk cx th env)
    (c2 : ∀ p ∈ cl, env.cells.lookup p.1 = some p.2) (c3 : ∀ p ∈ sc.names, p.2 = .free → ∃ c, (p.1, c) ∈ cl) (I0 : Inv W env.locals th ls hp s) {I : Addr} {vals : List V} {chk : Hp → Prop} {St : Nat → Heap → Prop} (S : Src W prog A I th vals chk St)
    (fresh : s.heap.get? I = none) {g : Heap} {tk : Nat} (kept : ∀ b o, s.heap.get? b = some o → g.get? b = some o) (liveI : ∃ o, g.get? I = some o) (st0 : St 0 g) (hgo : compGo chk eelt x hp.length vals (hp ++ [.list []]) = some hp') :
    wpAny (model prog W.w) A (newList []) (fun acc s₃ => wpAny (model prog W.w) A (newFunctionEnv sc env.globals cl [] env.qual none .none (some env)) (fun cenv s₄ =>
      codeAny (model prog W.w) A (.compStart (.ListComp elt [⟨.Name x px, iter, [], 0⟩] sc pos) 0 (.ref I) acc { cenv with scope := relabel sc env }) (compPost (model prog W.w) A NoE none (Post W env.locals th ls hp' (.ref hp.length) s) acc cenv.locals) s₄) NoE s₃) NoE { s with heap := g, toks := tk } := by
  -- the state with the iterator
  obtain ⟨I1, g1⟩ := I0.kept (k := tk) kept
  have hIA : I ∉ AS th := fun q => by obtain ⟨o, e⟩ := I0.hr.live I q; rw [fresh] at e; cases e
  have hI0 : W.h0.get? I = none := by
    cases e : W.h0.get? I with
    | none => rfl
    | some o => have := I0.keep I o e; rw [fresh] at this; cases this
  refine wpAny_newObj_type ?_ (by show (0 : Nat) ≤ _; exact Nat.zero_le _)
  generalize hDe : g.objs.size = D
  have freshD : g.get? D = none := hDe ▸ fresh_size g
  have keptD : ∀ b o, g.get? b = some o → (g.push (listOf (([] : List Value)).toArray 0)).get? b = some o := fun b o e => Heap.get?_push_of_some _ e
  obtain ⟨I3, g3⟩ := I1.born (k := tk) (p := (D, none)) (o := .list []) (h' := g.push (listOf (([] : List Value)).toArray 0)) keptD (fun a ha => by simp [A1] at ha; subst ha; exact freshD) (by simp [A1])
    ⟨rfl, [], 0, by rw [← hDe]; exact Heap.get?_push_size _ rfl, trivial⟩
  generalize hs3 : ({ s with heap := g.push (listOf (([] : List Value)).toArray 0), toks := tk } : Shared) = s3 at I3
  have hs3h : s3.heap = g.push (listOf (([] : List Value)).toArray 0) := by rw [← hs3]
  have hD : (th ++ [(D, none)])[hp.length]? = some (D, (none : Option Addr)) := by rw [← I0.hr.len]; simp
  generalize ht3 : th ++ [(D, (none : Option Addr))] = t3 at I3 g3 hD
  rw [← hs3h] at g3 keptD
  have hI3 : I ∉ AS t3 := fun q => by
    rcases g3.new I q with q | q
    · exact hIA q
    · obtain ⟨o, e⟩ := liveI
      have q' : g.get? I = none := q
      rw [e] at q'; cases q'
  have hIL : I ≠ env.locals := fun q => by obtain ⟨o, e⟩ := I0.live; rw [← q, fresh] at e; cases e
  have st3 : St 0 s3.heap := S.frame 0 _ _ st0 fun o e => keptD I o e
  have liveI3 : ∃ o, s3.heap.get? I = some o := let ⟨o, e⟩ := liveI; ⟨o, keptD I o e⟩
  -- the comprehension's own dict
  refine wpAny_newFunctionEnv (fun p hp => by rcases f.kinds p hp with e | e | e <;> rw [e] <;> decide) (fun p hp => nomatch hp) (fun h₁ hns₁ hsb₁ => ?_) f.kind
  generalize hC : s3.heap.objs.size = C at hns₁ hsb₁ ⊢
  have freshC : s3.heap.get? C = none := hC ▸ fresh_size s3.heap
  have kept4 : ∀ b o, s3.heap.get? b = some o → h₁.get? b = some o := fun b o e => by
    have hb : b ≠ C := fun q => by rw [q, freshC] at e; cases e
    exact (hsb₁.2 b hb).trans (Heap.get?_push_of_some _ e)
  have hCA : C ∉ AS t3 := fun q => by obtain ⟨o, e⟩ := I3.hr.live C q; rw [freshC] at e; cases e
  have hC0 : W.h0.get? C = none := by
    cases e : W.h0.get? C with
    | none => rfl
    | some o => have := I3.keep C o e; rw [freshC] at this; cases this
  have hCI : I ≠ C := fun q => by obtain ⟨o, e⟩ := liveI3; rw [q, freshC] at e; cases e
  have above : W.h0.objs.size ≤ C := by
    obtain ⟨m, F, _⟩ := I3.lo
    rw [← hC]
    exact Nat.le_trans F.above (Nat.le_of_lt F.ns.lt)
  -- the state before the first turn
  have hr4 : HR W.w.params W.h0 t3 (hp ++ [.list []]) h₁ := I3.hr.stays hCA hC0 fun b o _ e => kept4 b o e
  have F4 : Fr W.h0 C h₁ (fun y => ([] : List (Str × Value)).reverse.lookup y) := ⟨hns₁, fun b o e => kept4 b o (I3.keep b o e), above⟩
  have g4 : Go env.locals th s.heap t3 h₁ := by
    refine (g1.trans g3).trans (Go.stays (fun b o _ e => kept4 b o e) ?_)
    obtain ⟨o, e⟩ := I3.live; exact ⟨o, kept4 _ o e⟩
  have kL : ∀ o, s.heap.get? env.locals = some o → h₁.get? env.locals = some o := fun o e => kept4 _ _ (keptD _ _ (kept _ _ e))
  have start : ∀ tk4, CI W env.locals C D I hp.length th s St 0 (hp ++ [.list []]) { s3 with heap := h₁, toks := tk4 } := fun tk4 =>
    ⟨⟨t3, fun _ => none, ⟨hr4, ⟨_, F4, fun x v e => by cases e⟩, hCA, I3.gens, I3.os⟩, g4, hD, hI3, I3.off⟩, S.frame 0 _ _ st3 fun o e => kept4 I o e, kL⟩
  have freshC0 : s.heap.get? C = none := by
    cases e : s.heap.get? C with
    | none => rfl
    | some o => have := keptD _ _ (kept _ _ e); rw [freshC] at this; cases this
  have hLC0 : env.locals ≠ C := fun q => by obtain ⟨o, e⟩ := I0.live; rw [q, freshC0] at e; cases e
  have hx : (compEnvC sc cl C env).kindOf x = some .local := lookup_relabel_local f.x
  have hl0 : hp.length < (hp ++ [Mine.O.list []]).length := by simp
  have loop : ∀ s', CI W env.locals C D I hp.length th s St 0 (hp ++ [.list []]) s' →
      codeAny (model prog W.w) A (.compLoop (.ListComp elt [⟨.Name x px, iter, [], 0⟩] sc pos) 0 (.ref I) (.ref D) (compEnvC sc cl C env)) (compPost (model prog W.w) A NoE none (Post W env.locals th ls hp' (.ref hp.length) s) (.ref D) C) s' := by
    intro s' hs'
    refine codeAny_compLoop_list (fun n s' => ∃ k hpk, n = vals.length - k ∧ k ≤ vals.length ∧ CI W env.locals C D I hp.length th s St k hpk s' ∧ compGo chk eelt x hp.length (vals.drop k) hpk = some hp') ?_ vals.length ⟨0, _, rfl, Nat.zero_le _, hs', by rw [List.drop_zero]; exact hgo⟩
    rintro n s1 ⟨k, hpk, rfl, hk, ⟨⟨t, lsk, J, gJ, hDt, hIt, hLt⟩, stk, kLk⟩, hg⟩
    rcases Nat.lt_or_ge k vals.length with hlt | hge
    · rw [List.drop_eq_getElem_cons hlt, compGo] at hg
      split at hg
      · rename_i hchk
        split at hg
        · rename_i u h1 q1
          split at hg
          · rename_i xs q2
            split at hg
            · rename_i q3
              refine then_any (S.item k vals[k] C t lsk hpk s1 _ J gJ.pre hchk (List.getElem?_eq_getElem hlt) stk fun c h2 tk2 hc st2 hk2 => ?_) fun _ _ z => z
              dsimp only
              have J2 : Inv W C t lsk hpk { s1 with heap := h2, toks := tk2 } := J.exceptI hIt hCI hI0 hk2
              have gJ2 : Go env.locals th s.heap t h2 := gJ.exceptI fresh hk2
              have J2' : Inv W C t (fun _ => none) hpk { s1 with heap := h2, toks := tk2 } := J2.weak fun _ _ e => by cases e
              refine wpAny_assign_Name (store_ok (env := compEnvC sc cl C env) J2' hc f.kind hx fun h3 tk3 J3 hs3 gJ3 => ?_)
              have st3' : St (k + 1) h3 := S.frame _ _ _ st2 fun o e => (hs3.2 I hCI).trans e
              have gJ3' : Go env.locals th s.heap t h3 := gJ2.exceptI freshC0 fun b o hb e => (hs3.2 b hb).trans e
              refine then_any (kelt A (compEnvC sc cl C env) t _ hpk _ u h1 R (comp_env f (O.mono gJ.pre) c2 c3) J3 q1) fun r s4 ⟨t4, J4, gJ4, r4⟩ => ?_
              refine then_any (append_ok J4 (i := hp.length) (ca := .ref D) ⟨D, none, get_pre gJ4.pre hDt, rfl⟩ r4 q2 q3) fun r5 s5 ⟨t5, J5, gJ5, r5⟩ => ?_
              have gAll : Go C t h3 t5 s5.heap := gJ4.trans gJ5
              have hI4 : I ∉ AS t5 := fun q => by
                rcases gAll.new I q with q | q
                · exact hIt q
                · obtain ⟨o, e⟩ := S.live _ _ st3'
                  rw [e] at q; cases q
              have hL3 : ∀ o, s.heap.get? env.locals = some o → h3.get? env.locals = some o := fun o e => (hs3.2 _ hLC0).trans (hk2 _ _ (Ne.symm hIL) (kLk o e))
              have hL4 : env.locals ∉ AS t5 := fun q => by
                rcases gAll.new _ q with q | q
                · exact hLt q
                · obtain ⟨o, e⟩ := I0.live
                  rw [hL3 o e] at q; cases q
              exact ⟨vals.length - (k + 1), by omega, k + 1, _, rfl, hlt, ⟨⟨t5, _, J5, go_join gJ3' gAll freshC0, get_pre gAll.pre hDt, hI4, hL4⟩, S.frame _ _ _ st3' fun o e => gAll.ext I o hIt hCI e, fun o e => gAll.ext _ o hLt hLC0 (hL3 o e)⟩, hg⟩
            · cases hg
          · cases hg
        · cases hg
      · cases hg
    · have hkl : k = vals.length := by omega
      subst hkl
      rw [List.drop_length, compGo] at hg
      split at hg
      · rename_i hchk
        cases hg
        refine then_any (S.done C t lsk _ s1 _ J gJ.pre hchk stk fun h2 tk2 hk2 => ?_) fun _ _ z => z
        dsimp only
        have J2 : Inv W C t lsk hp' { s1 with heap := h2, toks := tk2 } := J.exceptI hIt hCI hI0 hk2
        have gJ2 : Go env.locals th s.heap t h2 := gJ.exceptI fresh hk2
        obtain ⟨m2, F2, _⟩ := J2.lo
        refine ⟨m2, F2.ns, fun h3 hs3 => ?_⟩
        have hk3 : ∀ b o, b ≠ C → h2.get? b = some o → h3.get? b = some o := fun b o n e => (hs3.2 b n).trans e
        have kL3 : ∀ o, s.heap.get? env.locals = some o → h3.get? env.locals = some o := fun o e => hk3 _ _ hLC0 (hk2 _ _ (Ne.symm hIL) (kLk o e))
        have hr3 : HR W.w.params W.h0 t hp' h3 := J2.hr.stays J2.off hC0 hk3
        have gJ3 : Go env.locals th s.heap t h3 := gJ2.exceptI freshC0 hk3
        refine ⟨t, ⟨hr3, ?_, hLt, J.gens, J.os⟩, gJ3, ⟨D, none, hDt, rfl⟩⟩
        obtain ⟨m, F, hm⟩ := I0.lo
        obtain ⟨o, es, ep, a1, a2⟩ := F.ns
        exact ⟨m, ⟨⟨o, es, ep, kL3 o a1, a2⟩, hr3.keep, F.above⟩, fun y u e => let ⟨c, b1, b2⟩ := hm y u e; ⟨c, b1, b2.mono gJ.pre⟩⟩
      · cases hg
  exact codeAny_compStart_list (loop _ (start _)) (then_any (S.self 0 _ _ (start (s3.toks + _)).st (loop _ (start _))) fun _ _ z => z)
end
end Mine

open PySem PySem.W PyProof.Rows PySem.Calls
set_option Elab.async false
set_option maxRecDepth 100000
set_option maxHeartbeats 1000000
namespace Mine
section
variable {W : Wd} {prog : Program} {dd : Nat} {cx : Cx} {L : Addr} {th th' : Th} {ls : Ls} {hp hp' : Hp} {s : Shared} {A : Around} {P : Params}
theorem isRange_name {f : Str} (h : isRange cx f = true) : eName cx f = eV (.bi .range) := by
  unfold isRange at h
  split at h
  · rename_i hk
    have e := eq_of_beq h
    subst e
    unfold eName
    rw [hk]
    have g : GT.lookup (Str.ofString "range") = some (.bi .range) := by kernel_rfl
    rw [g]
  · cases h
/-- a range, just made -/
def RangeAt (h : Heap) (r : Addr) (c : Int) (n : Nat) : Prop := ∃ b t u v, IsRange h r 0 b c t u v ∧ Builtin.Range.small 0 b c = true ∧ Builtin.Range.rangeSize 0 b c = (n : Int)
theorem small_ok {b c : Int} (hc : c = 1 ∨ c = 2) (h0 : 0 ≤ b) (h1 : b ≤ 1000000) : Builtin.Range.small 0 b c = true := by
  have fit : ∀ k : Int, 0 ≤ k → k ≤ 2000000 → Builtin.Range.rangeFitsLong k = true := fun k a b => by
    unfold Builtin.Range.rangeFitsLong
    rw [Bool.and_eq_true, decide_eq_true_eq, decide_eq_true_eq]
    constructor <;> omega
  have hs : 0 ≤ Builtin.Range.rangeSize 0 b c ∧ Builtin.Range.rangeSize 0 b c ≤ 2000000 := by
    unfold Builtin.Range.rangeSize
    rcases hc with rfl | rfl
    · rw [if_pos (by decide)]; split <;> omega
    · rw [if_pos (by decide)]; split <;> omega
  have f1 := fit _ hs.1 hs.2
  have f2 := fit b h0 (by omega)
  have f3 := fit (b + 1) (by omega) (by omega)
  have f4 := fit 0 (by decide) (by decide)
  have f5 := fit 1 (by decide) (by decide)
  have f6 := fit 2 (by decide) (by decide)
  unfold Builtin.Range.small
  rcases hc with rfl | rfl
  · simp [f1, f2, f3, f4, f5, f6]
  · simp [f1, f2, f3, f4, f5, f6]
theorem range_ok (H : CxOk W prog dd cx) {f : Str} {es : List PySem.Expr} {p q : Pos} {g : PySem.Expr → Ev} (hf : isRange cx f = true) (k : ∀ e, ES W prog dd cx e (g e)) (ks : ∀ e p ls hp, g (.Starred e p) ls hp = none) {env : Env} (R : Rm A dd) (O : EnvOk cx th env) (I : Inv W env.locals th ls hp s)
    {vs : List V} {is : List Int} (h : eAll (es.map g) ls hp = some (vs, hp')) (hr : rangeOf vs = some is) :
    wpAny (model prog W.w) A (eval (.Call (.Name f q) es [] p) env) (fun c s' => ∃ th' r cc n, Inv W env.locals th' ls hp' s' ∧ Go env.locals th s.heap th' s'.heap ∧ c = .ref r ∧ RangeAt s'.heap r cc n ∧ is.map V.int = (List.range n).map (fun k : Nat => V.int (0 + (k : Int) * cc))) NoE s := by
  show wpAny _ _ (do callWith p (← eval (.Name f q) env) [] (backTo p (starEach es env)) (backToKw p (keywordEach [] env))) _ _ _
  have hn := s_Name H (x := f) (p := q) A env th ls hp s (.bi .range) hp R O I (by rw [isRange_name hf]; rfl)
  refine wpAny_bind (then_post hn fun c s1 ⟨t1, I1, g1, r1⟩ => ?_)
  cases r1
  obtain ⟨pl, ha⟩ := args_ok k ks (p := p) R es t1 ls hp s1 vs hp' (O.mono g1.pre) I1 h
  refine call_ok pl (fun M hh X => ⟨_, .inr (.inl rfl), keeper_bi .range M hh⟩) ha fun cs t2 s2 I2 g2 r2 => ?_
  unfold rangeOf at hr
  split at hr
  · split at hr
    · rename_i n z
      cases hr
      obtain ⟨c, rfl, t, rfl⟩ := vrs1 r2
      refine call_range_1 ?_
      obtain ⟨I3, g3⟩ := I2.kept (k := s2.toks + 1 + 1) (h' := s2.heap.push { cls := .type "range", data := .fields #[.int 0 s2.toks, .int n t, .int 1 (s2.toks + 1)] }) fun b o e => Heap.get?_push_of_some _ e
      refine ⟨t2, _, 1, n.toNat, I3, (g1.trans g2).trans g3, rfl, ⟨n, _, _, _, IsRange.new .., small_ok (.inl rfl) z.1 z.2, ?_⟩, ?_⟩
      · unfold Builtin.Range.rangeSize
        rw [if_pos (by decide)]
        split <;> omega
      · rw [List.map_map]
        apply List.map_congr_left
        intro k _
        simp
    · cases hr
  · split at hr
    · rename_i a n c z
      cases hr
      obtain ⟨rfl, rfl, z⟩ := z
      obtain ⟨c, c2, c3, rfl, ⟨t, rfl⟩, ⟨u, rfl⟩, ⟨v, rfl⟩⟩ := vrs3 r2
      refine call_range_3 (by decide) ?_ (.inl (PyProof.noPylong_small (by decide)))
      obtain ⟨I3, g3⟩ := I2.kept (k := s2.toks) (h' := s2.heap.push { cls := .type "range", data := .fields #[.int 0 t, .int n u, .int 2 v] }) fun b o e => Heap.get?_push_of_some _ e
      refine ⟨t2, _, 2, (n.toNat + 1) / 2, I3, (g1.trans g2).trans g3, rfl, ⟨n, _, _, _, IsRange.new .., small_ok (.inr rfl) z.1 z.2, ?_⟩, ?_⟩
      · unfold Builtin.Range.rangeSize
        rw [if_pos (by decide)]
        split <;> omega
      · rw [List.map_map]
        apply List.map_congr_left
        intro k _
        simp [Int.mul_comm]
    · cases hr
  · cases hr
/-- the iterator of a range -/
theorem range_iter {r : Addr} {cc : Int} {n : Nat} (hr : RangeAt s.heap r cc n) {Q : Value → Shared → Prop}
    (hQ : ∀ g, (∀ b o, s.heap.get? b = some o → g.get? b = some o) → IsRangeIter g s.heap.objs.size (0 + ((0 : Nat) : Int) * cc) ((n : Int) - ((0 : Nat) : Int)) cc → Q (.ref s.heap.objs.size) { s with heap := g }) : wpAny (model prog W.w) A (pyIter (.ref r)) Q NoE s := by
  obtain ⟨b, t, u, v, h1, h2, h3⟩ := hr
  refine wpAny_pyIter_range h1 h2 (hQ _ (fun b o e => Heap.get?_push_of_some _ e) ?_)
  rw [h3]
  have e1 : (0 : Int) + ((0 : Nat) : Int) * cc = 0 := by simp
  have e2 : (n : Int) - ((0 : Nat) : Int) = n := by simp
  rw [e1, e2]
  exact Heap.get?_push_size _ rfl
theorem s_CompR (H : CxOk W prog dd cx) {f x : Str} {elt : PySem.Expr} {es : List PySem.Expr} {sc : Scope} {px q p pos : Pos} {eelt : Ev} {g : PySem.Expr → Ev} (hf : isRange cx f = true) (fo : freeOk cx sc x = true) (kelt : ES W prog dd (subCx cx sc) elt eelt)
    (k : ∀ e, ES W prog dd cx e (g e)) (ks : ∀ e p ls hp, g (.Starred e p) ls hp = none) : ES W prog dd cx (.ListComp elt [⟨.Name x px, .Call (.Name f q) es [] p, [], 0⟩] sc pos) (eCompR eelt x (es.map g)) := fun A env th ls hp s v hp' R O I h => by
  have ff := freeOk_of fo
  unfold eCompR at h
  split at h
  · rename_i vs h1 q1
    split at h
    · rename_i is q2
      split at h
      · rename_i h2 q3
        cases h
        obtain ⟨cl, c1, c2, c3⟩ := closureFor_ok (env := env) (scope := sc) fun p hp hpf => by
          obtain ⟨_, i, hi⟩ := ff.free p hp hpf
          obtain ⟨c, d, _, e⟩ := O.cells _ i hi
          exact ⟨c, e⟩
        rw [eval_ListComp]
        refine wpAny_comprehension_free (use := none) rfl (fun _ => rfl) c1 ff.kind ff.loc ?_
        refine then_post (range_ok H hf k ks R O I q1 q2) fun c s1 ⟨t1, r, cc, n, I1, g1, hc, hr, he⟩ => ?_
        subst hc
        refine range_iter hr fun g kg st => ?_
        rw [he] at q3
        have := comp_core H R (px := px) (pos := pos) (iter := .Call (.Name f q) es [] p) ff kelt (O.mono g1.pre) c2 c3 I1 ((src_range R.hd s1.heap.objs.size cc n).of_pre (List.nil_prefix)) (fresh_size _) (tk := s1.toks) kg ⟨_, st⟩ st q3
        refine then_post this fun acc s3 h3 => then_post h3 fun cenv s4 h4 => codeAny_mono h4 fun r s5 h5 => ?_
        cases r with
        | error e =>
          obtain ⟨m, a1, a2⟩ := h5
          exact ⟨m, a1, a2⟩
        | ok fl =>
          obtain ⟨m, a1, a2⟩ := h5
          exact ⟨m, a1, fun h' hs' => (a2 h' hs').trans g1⟩
      · cases h
    · cases h
  · cases h
theorem s_CompL (H : CxOk W prog dd cx) {x : Str} {elt o : PySem.Expr} {l u : Option PySem.Expr} {sc : Scope} {px q p pos : Pos} {eelt esrc : Ev} (fo : freeOk cx sc x = true) (kelt : ES W prog dd (subCx cx sc) elt eelt)
    (ksrc : ES W prog dd cx (.Subscript o (.Slice l u none q) p) esrc) : ES W prog dd cx (.ListComp elt [⟨.Name x px, .Subscript o (.Slice l u none q) p, [], 0⟩] sc pos) (eCompL eelt x esrc) := fun A env th ls hp s v hp' R O I h => by
  have ff := freeOk_of fo
  unfold eCompL at h
  split at h
  · rename_i i h1 q1
    split at h
    · rename_i xs q2
      split at h
      · rename_i hz
        split at h
        · rename_i h2 q3
          cases h
          obtain ⟨cl, c1, c2, c3⟩ := closureFor_ok (env := env) (scope := sc) fun p hp hpf => by
            obtain ⟨_, i, hi⟩ := ff.free p hp hpf
            obtain ⟨c, d, _, e⟩ := O.cells _ i hi
            exact ⟨c, e⟩
          rw [eval_ListComp]
          refine wpAny_comprehension_free (use := none) rfl (fun _ => rfl) c1 ff.kind ff.loc ?_
          refine then_post (ksrc A env th ls hp s _ h1 R O I q1) fun c s1 ⟨t1, I1, g1, r1⟩ => ?_
          obtain ⟨ax, da, rfl, tx, ox⟩ := I1.at q2 r1
          obtain ⟨us, la, ra⟩ := ox.isList
          refine wpAny_pyIter_list la ?_
          have := comp_core H R (px := px) (pos := pos) (iter := .Subscript o (.Slice l u none q) p) ff kelt (O.mono g1.pre) c2 c3 I1 (src_list R.hd s1.heap.objs.size tx) (fresh_size _) (tk := s1.toks) (g := s1.heap.push { cls := .type "list_iterator", data := .fields #[.ref ax, .int 0 0] })
            (fun b o e => Heap.get?_push_of_some _ e) ⟨_, Heap.get?_push_size _ rfl⟩ ⟨_, Heap.get?_push_size _ rfl, rfl, rfl⟩ q3
          refine then_post this fun acc s3 h3 => then_post h3 fun cenv s4 h4 => codeAny_mono h4 fun r s5 h5 => ?_
          cases r with
          | error e =>
            obtain ⟨m, a1, a2⟩ := h5
            exact ⟨m, a1, a2⟩
          | ok fl =>
            obtain ⟨m, a1, a2⟩ := h5
            exact ⟨m, a1, fun h' hs' => (a2 h' hs').trans g1⟩
        · cases h
      · cases h
    · cases h
  · cases h
theorem nmOf_inv {e : PySem.Expr} {x : Str} (h : nmOf e = some x) : ∃ p, e = .Name x p := by
  unfold nmOf at h
  split at h
  · cases h; exact ⟨_, rfl⟩
  · cases h
theorem rangeCall_inv {it : PySem.Expr} {f : Str} {args : List PySem.Expr} (h : rangeCall it = some (f, args)) : ∃ p q, it = .Call (.Name f p) args [] q := by
  unfold rangeCall at h
  split at h
  · split at h
    · rename_i h1
      cases h
      obtain ⟨p, rfl⟩ := nmOf_inv h1
      exact ⟨p, _, rfl⟩
    · cases h
  · cases h
theorem sliceOf_inv {i : PySem.Expr} {l u : Option PySem.Expr} (h : sliceOf i = some (l, u)) : ∃ p, i = .Slice l u none p := by
  unfold sliceOf at h
  split at h
  · split at h
    · cases h; exact ⟨_, rfl⟩
    · cases h
  · cases h
theorem compOf_inv {gens : List Comprehension} {x : Str} {it : PySem.Expr} (h : compOf gens = some (x, it)) : ∃ px, gens = [⟨.Name x px, it, [], 0⟩] := by
  unfold compOf at h
  split at h
  · rename_i g
    split at h
    · rename_i h1 h2
      cases h
      obtain ⟨p, h3⟩ := nmOf_inv h1
      rw [Bool.and_eq_true, beq_iff_eq, List.isEmpty_iff] at h2
      obtain ⟨t, i, fs, as⟩ := g
      obtain rfl : t = _ := h3
      obtain rfl : fs = _ := h2.1
      obtain rfl : as = _ := h2.2
      exact ⟨p, rfl⟩
    · cases h
  · cases h
theorem overOf_rg {it : PySem.Expr} {f : Str} {args : List PySem.Expr} (h : overOf it = .rg f args) : ∃ p q, it = .Call (.Name f p) args [] q := by
  unfold overOf at h
  split at h
  · rename_i h1
    cases h
    exact rangeCall_inv h1
  · split at h
    · split at h <;> cases h
    · cases h
theorem overOf_cut {it : PySem.Expr} {o : PySem.Expr} {l u : Option PySem.Expr} (h : overOf it = .cut o l u) : ∃ p q, it = .Subscript o (.Slice l u none p) q := by
  unfold overOf at h
  split at h
  · cases h
  · split at h
    · split at h
      · rename_i h1
        cases h
        obtain ⟨p, rfl⟩ := sliceOf_inv h1
        exact ⟨p, _, rfl⟩
      · cases h
    · cases h
theorem s_At {E : PySem.Expr → Ev} (kE : ∀ e, ES W prog dd cx e (E e)) {o : PySem.Expr} {a : Str} {p : Pos} : ES W prog dd cx (.Attribute o a p) (atE E o a) := by
  unfold atE
  split
  · exact s_Attr (by assumption) (kE _)
  · exact s_No
theorem s_Cp {E : PySem.Expr → Ev} (kE : ∀ e, ES W prog dd cx e (E e)) {l : PySem.Expr} {ops : List CmpOp} {rs : List PySem.Expr} {p : Pos} : ES W prog dd cx (.Compare l ops rs p) (cpE E (E l) ops rs) := by
  unfold cpE
  split
  · split
    · exact s_Cmp1 (by assumption) (kE _) (kE _)
    · exact s_No
  · split
    · exact s_Cmp2 (by assumption) (kE _) (kE _) (kE _)
    · exact s_No
  · exact s_No
theorem t_No {e : PySem.Expr} : TS W prog dd cx e (fun _ _ => none) := fun _ _ _ _ _ _ _ _ _ _ _ h => by cases h
theorem t_Cp {E : PySem.Expr → Ev} (kE : ∀ e, ES W prog dd cx e (E e)) {l : PySem.Expr} {ops : List CmpOp} {rs : List PySem.Expr} {p : Pos} : TS W prog dd cx (.Compare l ops rs p) (cpT E (E l) ops rs) := by
  unfold cpT
  split
  · split
    · exact t_Cmp1 (by assumption) (kE _) (kE _)
    · exact t_No
  · split
    · exact t_Cmp2 (by assumption) (kE _) (kE _) (kE _)
    · exact t_No
  · exact t_No
theorem s_Sb {E : PySem.Expr → Ev} (H : CxOk W prog dd cx) (kE : ∀ e, ES W prog dd cx e (E e)) {o i : PySem.Expr} {p : Pos} : ES W prog dd cx (.Subscript o i p) (sbE E cx.sc (E o) i) := by
  unfold sbE
  split
  · rename_i h0
    obtain ⟨p, rfl⟩ := sliceOf_inv h0
    exact s_Cut H (kE _) kE
  · rename_i h0
    exact s_Idx (fun l u p e => by rw [e] at h0; cases h0) (kE _) (kE _)
theorem s_Kc {E : PySem.Expr → Ev} (H : CxOk W prog dd cx) (kE : ∀ e, ES W prog dd cx e (E e)) (kS : ∀ e p ls hp, E (.Starred e p) ls hp = none) {f : PySem.Expr} {args : List PySem.Expr} {ks : List Keyword} {p : Pos} : ES W prog dd cx (.Call f args ks p) (kcE E cx f args ks p) := by
  cases ks with
  | cons => exact s_No
  | nil =>
    show ES W prog dd cx _ (caE E cx args p f)
    unfold caE
    split
    · split
      · rename_i hg
        simp only [Bool.and_eq_true, decide_eq_true_eq] at hg
        exact s_Meth H hg.1.1 hg.1.2 hg.2 (kE _) kE kS
      · exact s_No
    · split
      · exact s_Call H kE kS
      · exact s_No
    · exact s_No
theorem s_Gc {E E' : PySem.Expr → Ev} (H : CxOk W prog dd cx) (kE : ∀ e, ES W prog dd cx e (E e)) (kS : ∀ e p ls hp, E (.Starred e p) ls hp = none) {elt : PySem.Expr} {sc : Scope} (kE' : CxOk W prog dd (subCx cx sc) → ES W prog dd (subCx cx sc) elt (E' elt)) {gens : List Comprehension} {p : Pos} : ES W prog dd cx (.ListComp elt gens sc p) (gcE E E' cx elt sc gens) := by
  unfold gcE
  split
  · rename_i x it hc
    obtain ⟨px, rfl⟩ := compOf_inv hc
    unfold lcE
    split
    · rename_i ho
      obtain ⟨pf, q, rfl⟩ := overOf_rg ho
      split
      · rename_i hg
        simp only [Bool.and_eq_true, decide_eq_true_eq] at hg
        exact s_CompR H hg.1.1 hg.1.2 (kE' (comp_cx H (freeOk_of hg.1.2))) kE kS
      · exact s_No
    · rename_i ho
      obtain ⟨pf, q, rfl⟩ := overOf_cut ho
      split
      · rename_i hg
        exact s_CompL H hg (kE' (comp_cx H (freeOk_of hg))) (s_Cut H (kE _) kE)
      · exact s_No
    · exact s_No
  · exact s_No
/-- THE EXPRESSIONS -/
theorem sound_E : ∀ (d : Nat) (cx : Cx) (_ : CxOk W prog dd cx) (e : PySem.Expr), ES W prog dd cx e (evE d cx e) ∧ TS W prog dd cx e (evT d cx e) := by
  intro d
  induction d with
  | zero => exact fun cx H e => ⟨s_No, t_No⟩
  | succ d ih =>
    intro cx H e
    have kE : ∀ e, ES W prog dd cx e (evE d cx e) := fun e => (ih cx H e).1
    have kT : ∀ e, TS W prog dd cx e (evT d cx e) := fun e => (ih cx H e).2
    have kS : ∀ e p ls hp, evE d cx (.Starred e p) ls hp = none := fun e p ls hp => by cases d <;> rfl
    constructor
    · cases e with
      | Constant => exact s_Const
      | Name => exact s_Name H
      | BinOp => exact s_BinOp (kE _) (kE _)
      | UnaryOp op =>
        cases op with
        | USub => exact s_Neg (kE _)
        | _ => exact s_No
      | BoolOp op =>
        cases op with
        | And => exact s_And kE
        | Or => exact s_No
      | IfExp => exact s_IfExp (kT _) (kE _) (kE _)
      | Compare => exact s_Cp kE
      | Attribute => exact s_At kE
      | Subscript => exact s_Sb H kE
      | List => exact s_List kE kS
      | Tuple => exact s_Tuple kE kS
      | Call => exact s_Kc H kE kS
      | ListComp => exact s_Gc H kE kS fun H' => (ih _ H' _).1
      | _ => exact s_No
    · cases e with
      | UnaryOp op =>
        cases op with
        | Not => exact t_Not (kT _)
        | _ => exact t_No
      | BoolOp op =>
        cases op with
        | And => exact t_AndL kT _
        | Or => exact t_OrL kT _
      | Compare => exact t_Cp kE
      | Name => exact t_plain (kE _) fun _ _ => rfl
      | Call => exact t_plain (kE _) fun _ _ => rfl
      | Subscript => exact t_plain (kE _) fun _ _ => rfl
      | _ => exact t_No
end
end Mine

open PySem PySem.W PyProof.Rows PySem.Calls
set_option Elab.async false
set_option maxRecDepth 100000
set_option maxHeartbeats 1000000
namespace Mine
def FlR (th : Th) : Fl → Flow → Prop
  | .next, .next => True
  | .cont, .cont => True
  | .ret v, .ret c => VR th v c
  | _, _ => False
def PostX (W : Wd) (L : Addr) (th : Th) (ls' : Ls) (hp' : Hp) (fl : Fl) (s : Shared) : Flow → Shared → Prop :=
  fun f s' => ∃ th', Inv W L th' ls' hp' s' ∧ Go L th s.heap th' s'.heap ∧ FlR th' fl f
def XS (W : Wd) (prog : Program) (dd : Nat) (cx : Cx) (st : Stmt) (ex : Ex) : Prop :=
  ∀ (A : Around) (env : Env) (th : Th) (ls : Ls) (hp : Hp) (s : Shared) (fl : Fl) (ls' : Ls) (hp' : Hp), Rm A dd → EnvOk cx th env → Inv W env.locals th ls hp s → ex ls hp = some (fl, ls', hp') →
    wpAny (model prog W.w) A (exec st env) (PostX W env.locals th ls' hp' fl s) NoE s
def XSs (W : Wd) (prog : Program) (dd : Nat) (cx : Cx) (sts : List Stmt) (ex : Ex) : Prop :=
  ∀ (A : Around) (env : Env) (th : Th) (ls : Ls) (hp : Hp) (s : Shared) (fl : Fl) (ls' : Ls) (hp' : Hp), Rm A dd → EnvOk cx th env → Inv W env.locals th ls hp s → ex ls hp = some (fl, ls', hp') →
    wpAny (model prog W.w) A (execs sts env) (PostX W env.locals th ls' hp' fl s) NoE s
section
variable {W : Wd} {prog : Program} {dd : Nat} {cx : Cx} {L : Addr} {th th' : Th} {ls ls' : Ls} {hp hp' : Hp} {s : Shared} {A : Around} {P : Params}
theorem PostX.trans {fl : Fl} {s' : Shared} {c : Flow} {s'' : Shared} (g : Go L th s.heap th' s'.heap) (p : PostX W L th' ls' hp' fl s' c s'') : PostX W L th ls' hp' fl s c s'' :=
  let ⟨t, I, g', r⟩ := p; ⟨t, I, g.trans g', r⟩
theorem x_No {st : Stmt} : XS W prog dd cx st sNo := fun _ _ _ _ _ _ _ _ _ _ _ _ h => by cases h
theorem x_nil : XSs W prog dd cx [] (sAll []) := fun A env th ls hp s fl ls' hp' R O I h => by
  cases h
  exact wpAny_execs_nil ⟨th, I, Go.refl .., trivial⟩
theorem x_cons {st : Stmt} {sts : List Stmt} {e : Ex} {es : List Ex} (a : XS W prog dd cx st e) (b : XSs W prog dd cx sts (sAll es)) : XSs W prog dd cx (st :: sts) (sAll (e :: es)) := fun A env th ls hp s fl ls' hp' R O I h => by
  rw [sAll] at h
  dsimp only at h
  refine wpAny_execs_cons ?_
  split at h
  · rename_i l1 h1 q1
    refine then_post (a A env th ls hp s _ _ _ R O I q1) fun f s1 ⟨t1, I1, g1, r1⟩ => ?_
    cases f <;> first | exact r1.elim | skip
    exact then_post (b A env t1 l1 h1 s1 fl ls' hp' R (O.mono g1.pre) I1 h) fun c s2 p2 => p2.trans g1
  · rename_i r hne
    refine then_post (a A env th ls hp s _ _ _ R O I h) fun f s1 ⟨t1, I1, g1, r1⟩ => ?_
    cases fl with
    | next => exact absurd h (hne _ _)
    | cont => cases f <;> first | exact r1.elim | exact ⟨t1, I1, g1, r1⟩
    | ret v => cases f <;> first | exact r1.elim | exact ⟨t1, I1, g1, r1⟩
theorem x_all {f : Stmt → Ex} (k : ∀ st, XS W prog dd cx st (f st)) : ∀ sts : List Stmt, XSs W prog dd cx sts (sAll (sts.map f))
  | [] => x_nil
  | st :: sts => x_cons (k st) (x_all k sts)
theorem noComp_swaps {e : PySem.Expr} {t : Option PySem.Expr} {line : Nat} {env : Env} (h : noComp e = true) : swapsWith e t line env = pure false := by
  cases e <;> first | rfl | cases h
theorem swaps_attr {e o : PySem.Expr} {a : Str} {p : Pos} {line : Nat} {env : Env} : swapsWith e (some (.Attribute o a p)) line env = pure false := by cases e <;> rfl
theorem swaps_sub {e o i : PySem.Expr} {p : Pos} {line : Nat} {env : Env} : swapsWith e (some (.Subscript o i p)) line env = pure false := by cases e <;> rfl
theorem x_Expr {e : PySem.Expr} {p : Pos} {ev : Ev} (hc : noComp e = true) (k : ES W prog dd cx e ev) : XS W prog dd cx (.Expr e p) (sExpr ev) := fun A env th ls hp s fl ls' hp' R O I h => by
  have hi : interactive env = false := by unfold interactive; rw [O.kind]; rfl
  unfold sExpr at h
  split at h <;> first | cases h | skip
  all_goals
    rename_i q1
    refine wpAny_Expr (then_post (k A env th ls hp s _ _ R O I q1) fun c s1 ⟨t1, I1, g1, r1⟩ => ?_) hi (noComp_swaps hc)
    first
      | (cases r1; exact ⟨t1, I1, g1, trivial⟩)
      | (obtain ⟨t, rfl⟩ := r1; exact ⟨t1, I1, g1, trivial⟩)
theorem x_Asg {x : Str} {e : PySem.Expr} {p q : Pos} {ev : Ev} (hc : noComp e = true) (hx : cx.names.lookup x = some .local) (k : ES W prog dd cx e ev) : XS W prog dd cx (.Assign [.Name x q] e p) (sAsg x ev) := fun A env th ls hp s fl ls' hp' R O I h => by
  unfold sAsg at h
  split at h
  · rename_i v h1 q1
    cases h
    refine wpAny_Assign_Name (then_post (k A env th ls hp s _ _ R O I q1) fun c s1 ⟨t1, I1, g1, r1⟩ => ?_) (noComp_swaps hc)
    exact store_ok I1 r1 O.kind (by unfold Env.kindOf; rw [O.names]; exact hx) fun h' tk I2 hs g2 => ⟨t1, I2, g1.trans g2, trivial⟩
  · cases h
theorem x_AsgC {x : Str} {e : PySem.Expr} {p q : Pos} {ev : Ev} (hc : noComp e = true) (hx : cx.names.lookup x = some .cell) (k : ES W prog dd cx e ev) : XS W prog dd cx (.Assign [.Name x q] e p) (sAsgC (cx.cells.lookup x) ev) := fun A env th ls hp s fl ls' hp' R O I h => by
  unfold sAsgC at h
  split at h
  · rename_i v h1 q1
    generalize hi : cx.cells.lookup x = oi at h
    rcases oi with _ | i
    · cases h
    dsimp only at h
    split at h
    · rename_i u qc
      cases h
      refine wpAny_Assign_Name (then_post (k A env th ls hp s _ _ R O I q1) fun c s1 ⟨t1, I1, g1, r1⟩ => ?_) (noComp_swaps hc)
      obtain ⟨a, d, e1, e2⟩ := (O.mono g1.pre).cells x i hi
      obtain ⟨p1, e3, e4⟩ := I1.hr.obj qc
      rw [e1] at e3; cases e3
      obtain ⟨e5, c0, e6, e7⟩ := e4
      refine wpAny_storeName_cell O.kind (by unfold Env.kindOf; rw [O.names]; exact hx) e2 e6 fun h' hc' hs' => ?_
      obtain ⟨I2, g2⟩ := I1.turn (k := s1.toks) (o' := .cell (some v)) (a := a) e1 (by simp [A1]) (fun b o hb e => (hs'.2 b hb).trans e) ⟨e5, some c, hc', r1⟩
      exact ⟨t1, I2, g1.trans g2, trivial⟩
    · cases h
  · cases h
theorem x_Attr {o e : PySem.Expr} {a : Str} {p q : Pos} {eo ev : Ev} (ko : ES W prog dd cx o eo) (k : ES W prog dd cx e ev) : XS W prog dd cx (.Assign [.Attribute o a q] e p) (sAttr eo a ev) := fun A env th ls hp s fl ls' hp' R O I h => by
  unfold sAttr at h
  split at h
  · rename_i v h1 q1
    split at h
    · rename_i i h2 q2
      split at h
      · rename_i C fs q3
        split at h
        · rename_i q4
          cases h
          rw [plainObj_exec_Assign_Attribute _ _ _ _ _ swaps_attr]
          refine wpAny_bind (wpAny_standAt (wpAny_bind (then_post (k A env th ls hp s _ _ R O I q1) fun c s1 ⟨t1, I1, g1, r1⟩ => wpAny_bind ?_)))
          show wpAny _ _ (do
            let ov ← holding [c] (eval o env)
            standAt q.atName
            holding [c, ov] (setAttr ov a c)
            release [c, ov] []) _ _ _
          refine wpAny_bind (wpAny_holding (then_post (ko A env t1 ls h1 s1 _ _ R (O.mono g1.pre) I1 q2) fun oc s2 ⟨t2, I2, g2, r2⟩ => wpAny_bind (wpAny_standAt (wpAny_bind (wpAny_holding ?_)))))
          exact then_post (setAttr_ok I2 r2 (r1.mono g2.pre) q3 q4.1 q4.2) fun _ s3 ⟨t3, I3, g3⟩ => wpAny_release' (wpAny_pure ⟨t3, I3, (g1.trans g2).trans g3, trivial⟩)
        · cases h
      · cases h
    · cases h
  · cases h
theorem x_Item {o i e : PySem.Expr} {p q : Pos} {eo ei ev : Ev} (ko : ES W prog dd cx o eo) (ki : ES W prog dd cx i ei) (k : ES W prog dd cx e ev) : XS W prog dd cx (.Assign [.Subscript o i q] e p) (sItem eo ei ev) := fun A env th ls hp s fl ls' hp' R O I h => by
  unfold sItem at h
  split at h
  · rename_i v h1 q1
    split at h
    · rename_i l h2 q2
      split at h
      · rename_i kk h3 q3
        split at h
        · rename_i xs q4
          split at h
          · rename_i q5
            cases h
            refine wpAny_Assign_Subscript (then_post (k A env th ls hp s _ _ R O I q1) fun c s1 ⟨t1, I1, g1, r1⟩ => then_post (ko A env t1 ls h1 s1 _ _ R (O.mono g1.pre) I1 q2) fun oc s2 ⟨t2, I2, g2, r2⟩ =>
              then_post (ki A env t2 ls h2 s2 _ _ R ((O.mono g1.pre).mono g2.pre) I2 q3) fun ic s3 ⟨t3, I3, g3, r3⟩ => ?_) swaps_sub
            obtain ⟨t, rfl⟩ := r3
            exact then_post (setItem_ok I3 (r2.mono g3.pre) ((r1.mono g2.pre).mono g3.pre) q4 q5) fun _ s4 ⟨t4, I4, g4⟩ => ⟨t4, I4, ((g1.trans g2).trans g3).trans g4, trivial⟩
          · cases h
        · cases h
      · cases h
    · cases h
  · cases h
theorem x_If {t : PySem.Expr} {a b : List Stmt} {p : Pos} {tr : Tr} {ea eb : Ex} (kt : TS W prog dd cx t tr) (ka : XSs W prog dd cx a ea) (kb : XSs W prog dd cx b eb) : XS W prog dd cx (.If t a b p) (sIf tr ea eb) := fun A env th ls hp s fl ls' hp' R O I h => by
  unfold sIf at h
  split at h
  · rename_i h1 q1
    refine wpAny_If (then_post (kt A env th ls hp s _ _ R O I q1) ?_)
    rintro c s1 ⟨rfl, t1, I1, g1⟩
    exact then_post (ka A env t1 ls h1 s1 fl ls' hp' R (O.mono g1.pre) I1 h) fun c s2 p2 => p2.trans g1
  · rename_i h1 q1
    refine wpAny_If (then_post (kt A env th ls hp s _ _ R O I q1) ?_)
    rintro c s1 ⟨rfl, t1, I1, g1⟩
    exact then_post (kb A env t1 ls h1 s1 fl ls' hp' R (O.mono g1.pre) I1 h) fun c s2 p2 => p2.trans g1
  · cases h
theorem x_Ret {e : PySem.Expr} {p : Pos} {ev : Ev} (k : ES W prog dd cx e ev) : XS W prog dd cx (.Return (some e) p) (sRet ev) := fun A env th ls hp s fl ls' hp' R O I h => by
  unfold sRet at h
  split at h
  · rename_i v h1 q1
    cases h
    exact wpAny_Return_some (then_post (k A env th ls hp s _ _ R O I q1) fun c s1 ⟨t1, I1, g1, r1⟩ => ⟨t1, I1, g1, r1⟩)
  · cases h
theorem x_Ret0 {p : Pos} : XS W prog dd cx (.Return none p) (sRet (eV .none)) := fun A env th ls hp s fl ls' hp' R O I h => by
  cases h
  exact wpAny_Return_none ⟨th, I, Go.refl .., rfl⟩
theorem x_Cont {p : Pos} : XS W prog dd cx (.Continue p) sCont := fun A env th ls hp s fl ls' hp' R O I h => by
  cases h
  exact wpAny_Continue ⟨th, I, Go.refl .., trivial⟩
end
end Mine

open PySem PySem.W PyProof.Rows PySem.Calls
set_option Elab.async false
set_option maxRecDepth 100000
set_option maxHeartbeats 1000000
namespace Mine
section
variable {W : Wd} {prog : Program} {dd : Nat} {cx : Cx} {L : Addr} {th th' : Th} {ls ls' : Ls} {hp hp' : Hp} {s : Shared} {A : Around} {P : Params}
theorem x_While {t : PySem.Expr} {b : List Stmt} {p : Pos} {tr : Tr} {eb : Ex} {n : Nat} (kt : TS W prog dd cx t tr) (kb : XSs W prog dd cx b eb) : XS W prog dd cx (.While t b [] p) (sWhile tr eb n) := fun A env th ls hp s fl ls' hp' R O I h => by
  refine wpAny_While ?_
  refine codeAny_whileLoop (fun n s1 => ∃ t1 l1 h1, Inv W env.locals t1 l1 h1 s1 ∧ Go env.locals th s.heap t1 s1.heap ∧ sWhile tr eb n l1 h1 = some (fl, ls', hp')) ?_ n ⟨th, ls, hp, I, Go.refl .., h⟩
  rintro n s1 ⟨t1, l1, h1, I1, g1, q⟩
  cases n with
  | zero => cases q
  | succ n =>
    rw [sWhile] at q
    dsimp only at q
    split at q
    · rename_i h2 q2
      refine then_any (kt A env t1 l1 h1 s1 _ h2 R (O.mono g1.pre) I1 q2) ?_
      rintro c s2 ⟨rfl, t2, I2, g2⟩
      rw [if_pos rfl]
      split at q
      · rename_i v l3 h3 q3
        cases q
        refine then_any (kb A env t2 l1 h2 s2 _ _ _ R ((O.mono g1.pre).mono g2.pre) I2 q3) fun f s3 ⟨t3, I3, g3, r3⟩ => ?_
        cases f <;> first | exact r3.elim | skip
        exact ⟨t3, I3, (g1.trans g2).trans g3, r3⟩
      · rename_i f0 l3 h3 hne q3
        refine then_any (kb A env t2 l1 h2 s2 _ _ _ R ((O.mono g1.pre).mono g2.pre) I2 q3) fun f s3 ⟨t3, I3, g3, r3⟩ => ?_
        have fin : ∃ m, m < n + 1 ∧ ∃ t1 l1 h1, Inv W env.locals t1 l1 h1 s3 ∧ Go env.locals th s.heap t1 s3.heap ∧ sWhile tr eb m l1 h1 = some (fl, ls', hp') := ⟨n, Nat.lt_succ_self n, t3, l3, h3, I3, (g1.trans g2).trans g3, q⟩
        cases f0 with
        | ret v => exact absurd rfl (hne v)
        | next => cases f <;> first | exact r3.elim | exact fin
        | cont => cases f <;> first | exact r3.elim | exact fin
      · cases q
    · rename_i h2 q2
      cases q
      refine then_any (kt A env t1 _ h1 s1 _ _ R (O.mono g1.pre) I1 q2) ?_
      rintro c s2 ⟨rfl, t2, I2, g2⟩
      rw [if_neg (by decide)]
      exact wpAny_execs_nil ⟨t2, I2, g1.trans g2, trivial⟩
    · cases q
/-- the turns of a for -/
theorem for_core (R : Rm A dd) {target : PySem.Expr} {body : List Stmt} {eb : Ex} {bd : V → Ls → Hp → Option Ls} {chk : Hp → Prop} {env : Env} {fl : Fl} (O : EnvOk cx th env) (kb : XSs W prog dd cx body eb) (I0 : Inv W env.locals th ls hp s) {I : Addr} {vals : List V} {St : Nat → Heap → Prop} (S : Src W prog A I th vals chk St)
    (fresh : s.heap.get? I = none) {g : Heap} {tk : Nat} (kept : ∀ b o, s.heap.get? b = some o → g.get? b = some o) (st0 : St 0 g)
    (hbd : ∀ t1 l1 h1 s1 k v c l2 (E : Value → Shared → Prop) (Q : Unit → Shared → Prop), th <+: t1 → Inv W env.locals t1 l1 h1 s1 → VR t1 v c → bd v l1 h1 = some l2 → St k s1.heap →
      (∀ s2, Inv W env.locals t1 l2 h1 s2 → Go env.locals t1 s1.heap t1 s2.heap → Q () s2) → wpAny (model prog W.w) A (letOwnedTupleGo target (.ref I) c) (fun _ s1' => wpAny (model prog W.w) A (assign target env c) Q E s1') E s1)
    (h : sTurns chk bd eb vals ls hp = some (fl, ls', hp')) {E : Value → Shared → Prop} :
    codeAny (model prog W.w) A (.forLoop target (.ref I) body [] env) (fun r s' => match r with | .ok f => PostX W env.locals th ls' hp' fl s f s' | .error e => E e s') { s with heap := g, toks := tk } := by
  obtain ⟨I1, g1⟩ := I0.kept (k := tk) kept
  have hIA : I ∉ AS th := fun q => by obtain ⟨o, e⟩ := I0.hr.live I q; rw [fresh] at e; cases e
  have hI0 : W.h0.get? I = none := by
    cases e : W.h0.get? I with
    | none => rfl
    | some o => have := I0.keep I o e; rw [fresh] at this; cases this
  have hIL : I ≠ env.locals := fun q => by obtain ⟨o, e⟩ := I0.live; rw [← q, fresh] at e; cases e
  refine codeAny_forLoop_any (fun n s1 => ∃ k t1 l1 h1, n = vals.length - k ∧ k ≤ vals.length ∧ Inv W env.locals t1 l1 h1 s1 ∧ Go env.locals th s.heap t1 s1.heap ∧ I ∉ AS t1 ∧ St k s1.heap ∧ sTurns chk bd eb (vals.drop k) l1 h1 = some (fl, ls', hp')) ?_ vals.length
    ⟨0, th, ls, hp, rfl, Nat.zero_le _, I1, g1, hIA, st0, by rw [List.drop_zero]; exact h⟩
  rintro n s1 ⟨k, t1, l1, h1, rfl, hk, J, gJ, hIt, stk, q⟩
  rcases Nat.lt_or_ge k vals.length with hlt | hge
  · rw [List.drop_eq_getElem_cons hlt, sTurns] at q
    dsimp only at q
    split at q
    · rename_i hchk
      split at q
      · rename_i l2 q2
        refine then_any (S.item k vals[k] env.locals t1 l1 h1 s1 _ J gJ.pre hchk (List.getElem?_eq_getElem hlt) stk fun c h2 tk2 hc st2 hk2 => ?_) fun _ _ z => z
        dsimp only
        have J2 : Inv W env.locals t1 l1 h1 { s1 with heap := h2, toks := tk2 } := J.exceptI hIt hIL hI0 hk2
        have gJ2 : Go env.locals th s.heap t1 h2 := gJ.exceptI fresh hk2
        refine hbd t1 l1 h1 { s1 with heap := h2, toks := tk2 } (k + 1) vals[k] c l2 _ _ gJ.pre J2 hc q2 st2 fun s3 J3 g3 => ?_
        have gJ3 : Go env.locals th s.heap t1 s3.heap := gJ2.trans g3
        have st3 : St (k + 1) s3.heap := S.frame _ _ _ st2 fun o e => g3.ext I o hIt hIL e
        split at q
        · rename_i v l4 h4 q4
          cases q
          refine then_any (kb A env t1 l2 h1 s3 _ _ _ R (O.mono gJ.pre) J3 q4) fun f s4 ⟨t4, J4, g4, r4⟩ => ?_
          cases f <;> first | exact r4.elim | skip
          exact ⟨t4, J4, gJ3.trans g4, r4⟩
        · rename_i f0 l4 h4 hne q4
          refine then_any (kb A env t1 l2 h1 s3 _ _ _ R (O.mono gJ.pre) J3 q4) fun f s4 ⟨t4, J4, g4, r4⟩ => ?_
          have hI4 : I ∉ AS t4 := fun q => by
            rcases g4.new I q with q | q
            · exact hIt q
            · obtain ⟨o, e⟩ := S.live _ _ st3
              rw [e] at q; cases q
          have fin : ∃ m, m < vals.length - k ∧ ∃ k t1 l1 h1, m = vals.length - k ∧ k ≤ vals.length ∧ Inv W env.locals t1 l1 h1 s4 ∧ Go env.locals th s.heap t1 s4.heap ∧ I ∉ AS t1 ∧ St k s4.heap ∧ sTurns chk bd eb (vals.drop k) l1 h1 = some (fl, ls', hp') :=
            ⟨vals.length - (k + 1), by omega, k + 1, t4, l4, h4, rfl, hlt, J4, gJ3.trans g4, hI4, S.frame _ _ _ st3 fun o e => g4.ext I o hIt hIL e, q⟩
          cases f0 with
          | ret v => exact absurd rfl (hne v)
          | next => cases f <;> first | exact r4.elim | exact fin
          | cont => cases f <;> first | exact r4.elim | exact fin
        · cases q
      · cases q
    · cases q
  · have hkl : k = vals.length := by omega
    subst hkl
    rw [List.drop_length, sTurns] at q
    dsimp only at q
    split at q
    · rename_i hchk
      cases q
      refine then_any (S.done env.locals t1 _ _ s1 _ J gJ.pre hchk stk fun h2 tk2 hk2 => ?_) fun _ _ z => z
      exact wpAny_execs_nil ⟨t1, J.exceptI hIt hIL hI0 hk2, gJ.exceptI fresh hk2, trivial⟩
    · cases q
theorem bd_name {x : Str} {px : Pos} {env : Env} (O : EnvOk cx th env) (hx : cx.names.lookup x = some .local) {I : Addr} {St : Nat → Heap → Prop} : ∀ t1 l1 h1 s1 k v c l2 (E : Value → Shared → Prop) (Q : Unit → Shared → Prop), th <+: t1 → Inv W env.locals t1 l1 h1 s1 → VR t1 v c → bdName x v l1 h1 = some l2 → St k s1.heap →
      (∀ s2, Inv W env.locals t1 l2 h1 s2 → Go env.locals t1 s1.heap t1 s2.heap → Q () s2) → wpAny (model prog W.w) A (letOwnedTupleGo (.Name x px) (.ref I) c) (fun _ s1' => wpAny (model prog W.w) A (assign (.Name x px) env c) Q E s1') E s1 := by
  intro t1 l1 h1 s1 k v c l2 E Q _ J hc hb _ hQ
  cases hb
  refine wpAny_of_eq (a := ()) rfl ?_
  exact wpAny_assign_Name (store_ok J hc O.kind (by unfold Env.kindOf; rw [O.names]; exact hx) fun h' tk J2 _ g2 => hQ _ J2 g2)
theorem x_ForB {x : Str} {px p : Pos} {it : PySem.Expr} {body : List Stmt} {ei : Ev} {eb : Ex} (hx : cx.names.lookup x = some .local) (hset : notSet it = true) (ki : ES W prog dd cx it ei) (kb : XSs W prog dd cx body eb) : XS W prog dd cx (.For (.Name x px) it body [] p) (sForB x ei eb) := fun A env th ls hp s fl ls' hp' R O I h => by
  unfold sForB at h
  split at h
  · rename_i d h1 q1
    split at h
    · refine wpAny_For (then_post (ki A env th ls hp s _ _ R O I q1) fun c s1 ⟨t1, I1, g1, r1⟩ => ?_) (by intro _; cases it <;> first | rfl | cases hset)
      obtain ⟨t, rfl⟩ := r1
      refine KBw.pyIter_bytes ?_
      have st0 : KBw.IsBytesIter (s1.heap.push { cls := .type "bytes_iterator", data := .fields #[.bytes d.toArray t, .int 0 0] }) s1.heap.objs.size d.toArray t 0 := ⟨_, Heap.get?_push_size _ rfl, rfl, rfl⟩
      have := for_core R (O.mono g1.pre) kb I1 ((src_bytes R.hd s1.heap.objs.size d t).of_pre List.nil_prefix) (fresh_size _) (tk := s1.toks) (fun b o e => Heap.get?_push_of_some _ e) st0 (bd_name (prog := prog) (A := A) (St := fun k h => KBw.IsBytesIter h s1.heap.objs.size d.toArray t k) (px := px) (O.mono g1.pre) hx) h (E := cameBackBy (model prog W.w) A env NoE)
      refine codeAny_mono this fun r s' hr => ?_
      cases r with
      | ok f => exact PostX.trans g1 hr
      | error e => exact hr
    · cases h
  · cases h
theorem x_ForR (H : CxOk W prog dd cx) {x f : Str} {px p q pc : Pos} {es : List PySem.Expr} {body : List Stmt} {gg : PySem.Expr → Ev} {eb : Ex} (hf : isRange cx f = true) (hx : cx.names.lookup x = some .local) (k : ∀ e, ES W prog dd cx e (gg e)) (ks : ∀ e p ls hp, gg (.Starred e p) ls hp = none) (kb : XSs W prog dd cx body eb) :
    XS W prog dd cx (.For (.Name x px) (.Call (.Name f q) es [] pc) body [] p) (sForR x (es.map gg) eb) := fun A env th ls hp s fl ls' hp' R O I h => by
  unfold sForR at h
  split at h
  · rename_i vs h1 q1
    split at h
    · rename_i is q2
      refine wpAny_For (then_post (range_ok H hf k ks R O I q1 q2) fun c s1 ⟨t1, r, cc, n, I1, g1, hc, hr, he⟩ => ?_)
      subst hc
      refine range_iter hr fun g kg st => ?_
      rw [he] at h
      have := for_core R (O.mono g1.pre) kb I1 ((src_range R.hd s1.heap.objs.size cc n).of_pre List.nil_prefix) (fresh_size _) (tk := s1.toks) kg st (bd_name (prog := prog) (A := A) (St := fun i h => IsRangeIter h s1.heap.objs.size (0 + (i : Nat) * cc) ((n : Int) - (i : Nat)) cc) (px := px) (O.mono g1.pre) hx) h (E := cameBackBy (model prog W.w) A env NoE)
      refine codeAny_mono this fun r s' hr => ?_
      cases r with
      | ok f => exact PostX.trans g1 hr
      | error e => exact hr
    · cases h
  · cases h
theorem bd_three {x y z : Str} {px py pz pt : Pos} {n : Nat} {env : Env} (R : Rm A dd) (O : EnvOk cx th env) (hx : cx.names.lookup x = some .local) (hy : cx.names.lookup y = some .local) (hz : cx.names.lookup z = some .local) {I ax : Addr} : ∀ t1 l1 h1 s1 k v c l2 (E : Value → Shared → Prop) (Q : Unit → Shared → Prop), th <+: t1 → Inv W env.locals t1 l1 h1 s1 → VR t1 v c → bdThree x y z v l1 h1 = some l2 → s1.heap.IsListIter I ax k →
      (∀ s2, Inv W env.locals t1 l2 h1 s2 → Go env.locals t1 s1.heap t1 s2.heap → Q () s2) → wpAny (model prog W.w) A (letOwnedTupleGo (.Tuple [.Name x px, .Name y py, .Name z pz] n pt) (.ref I) c) (fun _ s1' => wpAny (model prog W.w) A (assign (.Tuple [.Name x px, .Name y py, .Name z pz] n pt) env c) Q E s1') E s1 := by
  intro t1 l1 h1 s1 k v c l2 E Q _ J hc hb st hQ
  unfold bdThree at hb
  split at hb
  · rename_i i
    split at hb
    · rename_i a b d ei
      cases hb
      obtain ⟨tx, da, rfl, tt, ot⟩ := J.at ei hc
      obtain ⟨us, la, ra⟩ := ot.isTup
      match us, ra with
      | [ca, cb, cd], ⟨qa, qb, qd, _⟩ =>
        refine wpAny_letOwnedTupleGo_listiter st ?_
        show wpAny _ _ (do standAt pt; unpack (.ref tx) (assignEach [.Name x px, .Name y py, .Name z pz] env)) _ _ _
        refine wpAny_bind (wpAny_standAt (unpack_tuple R.hd la rfl rfl fun h' he => ?_))
        have kk : ∀ b o, s1.heap.get? b = some o → h'.get? b = some o := fun b o e => he b o (Nat.ne_of_lt (Heap.lt_size e)) e
        obtain ⟨J2, g2⟩ := J.kept (k := s1.toks) kk
        have hk : ∀ w : Str, cx.names.lookup w = some .local → env.kindOf w = some .local := fun w e => by unfold Env.kindOf; rw [O.names]; exact e
        show wpAny _ _ (do
          holding [cb, cd] (assign (.Name x px) env ca)
          holding [cd] (assign (.Name y py) env cb)
          holding [] (assign (.Name z pz) env cd)
          pure ()) _ _ _
        refine wpAny_bind (wpAny_holding (wpAny_assign_Name (store_ok J2 qa O.kind (hk x hx) fun h3 k3 J3 _ g3 => ?_)))
        refine wpAny_bind (wpAny_holding (wpAny_assign_Name (store_ok J3 qb O.kind (hk y hy) fun h4 k4 J4 _ g4 => ?_)))
        refine wpAny_bind (wpAny_holding (wpAny_assign_Name (store_ok J4 qd O.kind (hk z hz) fun h5 k5 J5 _ g5 => ?_)))
        exact wpAny_pure (hQ _ J5 (((g2.trans g3).trans g4).trans g5))
    · cases hb
  · cases hb
theorem x_ForT {x y z : Str} {px py pz pt p : Pos} {n : Nat} {it : PySem.Expr} {body : List Stmt} {ei : Ev} {eb : Ex} (hx : cx.names.lookup x = some .local) (hy : cx.names.lookup y = some .local) (hz : cx.names.lookup z = some .local) (hset : notSet it = true) (ki : ES W prog dd cx it ei) (kb : XSs W prog dd cx body eb) :
    XS W prog dd cx (.For (.Tuple [.Name x px, .Name y py, .Name z pz] n pt) it body [] p) (sForT x y z ei eb) := fun A env th ls hp s fl ls' hp' R O I h => by
  unfold sForT at h
  split at h
  · rename_i i h1 q1
    split at h
    · rename_i xs q2
      split at h
      · refine wpAny_For (then_post (ki A env th ls hp s _ _ R O I q1) fun c s1 ⟨t1, I1, g1, r1⟩ => ?_) (by intro _; cases it <;> first | rfl | cases hset)
        obtain ⟨ax, da, rfl, tx, ox⟩ := I1.at q2 r1
        obtain ⟨us, la, ra⟩ := ox.isList
        refine wpAny_pyIter_list la ?_
        have st0 : (s1.heap.push { cls := .type "list_iterator", data := .fields #[.ref ax, .int 0 0] }).IsListIter s1.heap.objs.size ax 0 := ⟨_, Heap.get?_push_size _ rfl, rfl, rfl⟩
        have := for_core R (O.mono g1.pre) kb I1 (src_list R.hd s1.heap.objs.size tx) (fresh_size _) (tk := s1.toks) (fun b o e => Heap.get?_push_of_some _ e) st0 (bd_three (prog := prog) (px := px) (py := py) (pz := pz) (pt := pt) (n := n) R (O.mono g1.pre) hx hy hz) h (E := cameBackBy (model prog W.w) A env NoE)
        refine codeAny_mono this fun r s' hr => ?_
        cases r with
        | ok f => exact PostX.trans g1 hr
        | error e => exact hr
      · cases h
    · cases h
  · cases h
theorem threeOf_inv {ts : List PySem.Expr} {x y z : Str} (h : threeOf ts = some (x, y, z)) : ∃ p q r, ts = [.Name x p, .Name y q, .Name z r] := by
  unfold threeOf at h
  split at h
  · split at h
    · rename_i h1 h2 h3
      cases h
      obtain ⟨p, rfl⟩ := nmOf_inv h1
      obtain ⟨q, rfl⟩ := nmOf_inv h2
      obtain ⟨r, rfl⟩ := nmOf_inv h3
      exact ⟨p, q, r, rfl⟩
    · cases h
  · cases h
theorem x_Xp {E : PySem.Expr → Ev} (kE : ∀ e, ES W prog dd cx e (E e)) {e : PySem.Expr} {p : Pos} : XS W prog dd cx (.Expr e p) (xpX E e) := by
  unfold xpX
  split
  · exact x_Expr (by assumption) (kE _)
  · exact x_No
theorem x_As {E : PySem.Expr → Ev} (kE : ∀ e, ES W prog dd cx e (E e)) {t e : PySem.Expr} {p : Pos} : XS W prog dd cx (.Assign [t] e p) (asX E cx e t) := by
  unfold asX
  split
  · split
    · exact x_Asg (by assumption) (by assumption) (kE _)
    · exact x_AsgC (by assumption) (by assumption) (kE _)
    · exact x_No
  · exact x_Attr (kE _) (kE _)
  · exact x_Item (kE _) (kE _) (kE _)
  · exact x_No
theorem x_Fo {E : PySem.Expr → Ev} (H : CxOk W prog dd cx) (kE : ∀ e, ES W prog dd cx e (E e)) (kS : ∀ e p ls hp, E (.Starred e p) ls hp = none) {t it : PySem.Expr} {sts : List Stmt} {b : Ex} (kX : XSs W prog dd cx sts b) {p : Pos} : XS W prog dd cx (.For t it sts [] p) (foX E cx it b t) := by
  unfold foX
  split
  · split
    · rename_i hr
      obtain ⟨pf, q, rfl⟩ := rangeCall_inv hr
      split
      · rename_i hg
        simp only [Bool.and_eq_true, decide_eq_true_eq, beq_iff_eq] at hg
        exact x_ForR H hg.1.1 hg.2 kE kS kX
      · exact x_No
    · split
      · rename_i hg
        simp only [Bool.and_eq_true, beq_iff_eq] at hg
        exact x_ForB hg.1 hg.2 (kE _) kX
      · exact x_No
  · split
    · rename_i ht
      obtain ⟨p1, p2, p3, rfl⟩ := threeOf_inv ht
      split
      · rename_i hg
        simp only [Bool.and_eq_true, beq_iff_eq] at hg
        exact x_ForT hg.1.1.1 hg.1.1.2 hg.1.2 hg.2 (kE _) kX
      · exact x_No
    · exact x_No
  · exact x_No
/-- THE STATEMENTS -/
theorem sound_X : ∀ (d : Nat) (cx : Cx) (_ : CxOk W prog dd cx) (st : Stmt), XS W prog dd cx st (exS d cx st) := by
  intro d
  induction d with
  | zero => exact fun cx H st => x_No
  | succ d ih =>
    intro cx H st
    have kE : ∀ e, ES W prog dd cx e (evE d cx e) := fun e => (sound_E d cx H e).1
    have kT : ∀ e, TS W prog dd cx e (evT d cx e) := fun e => (sound_E d cx H e).2
    have kX : ∀ sts : List Stmt, XSs W prog dd cx sts (sAll (sts.map (exS d cx))) := fun sts => x_all (fun st => ih cx H st) sts
    have kS : ∀ e p ls hp, evE d cx (.Starred e p) ls hp = none := fun e p ls hp => by cases d <;> rfl
    cases st with
    | Expr => exact x_Xp kE
    | Assign ts =>
      rcases ts with _ | ⟨t, _ | _⟩
      · exact x_No
      · exact x_As kE
      · exact x_No
    | If => exact x_If (kT _) (kX _) (kX _)
    | While t b el =>
      cases el with
      | nil => exact x_While (kT _) (kX _)
      | cons => exact x_No
    | For tg it b el =>
      cases el with
      | cons => exact x_No
      | nil => exact x_Fo H kE kS (kX _)
    | Return o =>
      cases o with
      | some => exact x_Ret (kE _)
      | none => exact x_Ret0
    | Continue => exact x_Cont
    | _ => exact x_No
theorem sound_Xs {d : Nat} {cx : Cx} (H : CxOk W prog dd cx) (sts : List Stmt) : XSs W prog dd cx sts (sAll (sts.map (exS d cx))) := x_all (fun st => sound_X d cx H st) sts
end
end Mine

open PySem PySem.W PyProof.Rows PySem.Calls
set_option Elab.async false
set_option maxRecDepth 100000
set_option maxHeartbeats 1000000
namespace Mine
/-- a def of the text: its statement, which name is a cell, what its names are bound to -/
structure Df where
  st : Stmt
  cell : Option Str
  ar : List V → Option (List (Str × V))
noncomputable def ar1 (a : String) : List V → Option (List (Str × V))
  | [x] => some [(Str.ofString a, x)]
  | _ => none
noncomputable def ar2 (a b : String) : List V → Option (List (Str × V))
  | [x, y] => some [(Str.ofString a, x), (Str.ofString b, y)]
  | _ => none
noncomputable def ar3 (a b c : String) : List V → Option (List (Str × V))
  | [x, y, z] => some [(Str.ofString a, x), (Str.ofString b, y), (Str.ofString c, z)]
  | _ => none
noncomputable def arInit : List V → Option (List (Str × V))
  | [s, d] => some [(Str.ofString "self", s), (Str.ofString "data", d), (Str.ofString "at", .int 0), (Str.ofString "end", .int (-1))]
  | [s, d, a] => some [(Str.ofString "self", s), (Str.ofString "data", d), (Str.ofString "at", a), (Str.ofString "end", .int (-1))]
  | [s, d, a, e] => some [(Str.ofString "self", s), (Str.ofString "data", d), (Str.ofString "at", a), (Str.ofString "end", e)]
  | _ => none
noncomputable def arPeek : List V → Option (List (Str × V))
  | [s] => some [(Str.ofString "self", s), (Str.ofString "ahead", .int 0)]
  | _ => none
noncomputable def ar0 : List V → Option (List (Str × V))
  | [] => some []
  | _ => none
noncomputable def DT : List (Addr × Df) := [
  (70, ⟨stAt 11, none, ar1 "code"⟩),
  (77, ⟨stAt 12, none, ar1 "code"⟩),
  (99, ⟨meAt 14 0, none, arInit⟩),
  (106, ⟨meAt 14 1, none, ar1 "self"⟩),
  (114, ⟨meAt 14 2, none, arPeek⟩),
  (121, ⟨meAt 14 3, none, ar1 "self"⟩),
  (128, ⟨meAt 14 4, none, ar2 "self" "word"⟩),
  (135, ⟨meAt 14 5, none, ar2 "self" "word"⟩),
  (142, ⟨meAt 14 6, none, ar1 "self"⟩),
  (149, ⟨meAt 14 7, none, ar1 "self"⟩),
  (156, ⟨meAt 14 8, none, ar1 "self"⟩),
  (205, ⟨meAt 21 0, none, ar3 "self" "top" "places"⟩),
  (268, ⟨meAt 21 9, none, ar1 "self"⟩),
  (303, ⟨stAt 23, none, ar1 "octets"⟩),
  (311, ⟨stAt 33, none, ar1 "code"⟩),
  (318, ⟨stAt 34, none, ar1 "code"⟩),
  (326, ⟨stAt 35, none, ar2 "octets" "at"⟩),
  (333, ⟨stAt 36, none, ar2 "cursor" "first"⟩),
  (340, ⟨stAt 37, none, ar1 "cursor"⟩),
  (347, ⟨stAt 38, none, ar1 "cursor"⟩),
  (352, ⟨stAt 39, some (Str.ofString "halves"), ar1 "cursor"⟩),
  (359, ⟨stAt 40, none, ar2 "cursor" "at"⟩),
  (366, ⟨stAt 41, none, ar3 "cursor" "code" "at"⟩),
  (373, ⟨stAt 42, none, ar1 "cursor"⟩),
  (380, ⟨stAt 43, none, ar1 "cursor"⟩),
  (388, ⟨stAt 46, none, ar0⟩),
  (395, ⟨stAt 47, none, ar2 "pen" "many"⟩),
  (400, ⟨stAt 48, some (Str.ofString "pen"), ar1 "pen"⟩),
  (407, ⟨stAt 49, none, ar2 "tokens" "moved"⟩),
  (412, ⟨stAt 50, none, ar1 "script"⟩)]
noncomputable def lsOf (bs : List (Str × V)) : Ls := fun x => bs.reverse.lookup x
/-- a body run, its frame's names bound -/
noncomputable def runDef (C : Orc) (n : Nat) (sc : Addr × List Int) (df : Df) (bs : List (Str × V)) (hp : Hp) : Option (V × Hp) :=
  match df.cell with
  | none => (match sAll ((fBody df.st).map (exS 40 ⟨C, n, sc, (fScope df.st).names, []⟩)) (lsOf bs) hp with
    | some (.ret v, _, h) => some (v, h)
    | some (_, _, h) => some (.none, h)
    | none => none)
  | some x => (match sAll ((fBody df.st).map (exS 40 ⟨C, n, sc, (fScope df.st).names, [(x, hp.length)]⟩)) (fun y => if y = x then none else bs.reverse.lookup y) (hp ++ [.cell (bs.reverse.lookup x)]) with
    | some (.ret v, _, h) => some (v, h)
    | some (_, _, h) => some (.none, h)
    | none => none)
/-- the class's __init__ -/
noncomputable def initOf (a : Addr) : Option Addr := if a = 187 then some 99 else if a = 285 then some 205 else none
/-- what a call gives, d calls deep -/
noncomputable def orc (n : Nat) (sc : Addr × List Int) : Nat → Orc
  | 0 => fun _ _ _ => none
  | d + 1 => fun a vs hp => match DT.lookup a with
    | some df => (match df.ar vs with | some bs => runDef (orc n sc d) n sc df bs hp | none => none)
    | none => (match initOf a with
      | some fI => (match orc n sc d fI (.ref hp.length :: vs) (hp ++ [.inst a []]) with
        | some (.none, h) => some (.ref hp.length, h)
        | _ => none)
      | none => none)
end Mine

open PySem PySem.W PyProof.Rows PySem.Calls
set_option Elab.async false
set_option maxRecDepth 100000
set_option maxHeartbeats 1000000
namespace Mine
def BR2 (th : Th) : List (Str × V) → List (Str × Value) → Prop
  | [], [] => True
  | p :: ps, q :: qs => (p.1 = q.1 ∧ VR th p.2 q.2) ∧ BR2 th ps qs
  | _, _ => False
/-- which names a def may bind: its locals, and its cell -/
noncomputable def locOk (names : List (Str × NameKind)) (cell : Option Str) (n : Str) : Bool := names.lookup n == some .local || cell == some n
noncomputable def cellsOk (names : List (Str × NameKind)) : Option Str → Bool
  | none => names.all fun p => p.2 != .cell
  | some x => (names.filter fun p => p.2 == .cell) == [(x, .cell)] && names.lookup x == some .cell
structure DfOk (P : Params) (a : Addr) (df : Df) (name qual : Str) (dV pm : Value) (c : Addr) : Prop where
  ho : (KK P).lookup a = some ⟨.type "function", none, .func (fnOf name qual (fArgs df.st) (fBody df.st) (fScope df.st) dV .none .none pm none (.ref c) .none), List.toArray []⟩
  hcd : codeIn (KK P) (.ref c) qual = true
  kind : (fScope df.st).kind = .function
  co : (fScope df.st).isCoroutine = false
  gen : (fScope df.st).isGenerator = false
  dbg : (fScope df.st).names.lookup (Str.ofString "__debug__") = none
  cell : cellsOk (fScope df.st).names df.cell = true
  bind : ∀ (s : Shared), (KK P).In s.heap → ∀ (th : Th) (vs : List V) (cs : List Value) (bs : List (Str × V)), VRs th vs cs → df.ar vs = some bs →
    ∃ cb, BindsTo s (fnOf name qual (fArgs df.st) (fBody df.st) (fScope df.st) dV .none .none pm none (.ref c) .none) ⟨cs, []⟩ cb ∧ BR2 th bs cb
  loc : ∀ (vs : List V) (bs : List (Str × V)), df.ar vs = some bs → ∀ p ∈ bs, locOk (fScope df.st).names df.cell p.1 = true
theorem inv0 {th : Th} {vs : List V} {cs : List Value} {bs : List (Str × V)} (r : VRs th vs cs) (e : ar0 vs = some bs) : cs = [] ∧ bs = [] := by
  unfold ar0 at e
  split at e
  · cases e; exact ⟨vrs0 r, rfl⟩
  · cases e
theorem inv1 {a : String} {th : Th} {vs : List V} {cs : List Value} {bs : List (Str × V)} (r : VRs th vs cs) (e : ar1 a vs = some bs) : ∃ c, cs = [c] ∧ ∃ x, VR th x c ∧ bs = [(Str.ofString a, x)] := by
  unfold ar1 at e
  split at e
  · cases e; obtain ⟨c, rfl, h⟩ := vrs1 r; exact ⟨c, rfl, _, h, rfl⟩
  · cases e
theorem inv2 {a b : String} {th : Th} {vs : List V} {cs : List Value} {bs : List (Str × V)} (r : VRs th vs cs) (e : ar2 a b vs = some bs) : ∃ c d, cs = [c, d] ∧ ∃ x y, VR th x c ∧ VR th y d ∧ bs = [(Str.ofString a, x), (Str.ofString b, y)] := by
  unfold ar2 at e
  split at e
  · cases e; obtain ⟨c, d, rfl, h, h2⟩ := vrs2 r; exact ⟨c, d, rfl, _, _, h, h2, rfl⟩
  · cases e
theorem inv3 {a b f : String} {th : Th} {vs : List V} {cs : List Value} {bs : List (Str × V)} (r : VRs th vs cs) (e : ar3 a b f vs = some bs) : ∃ c d g, cs = [c, d, g] ∧ ∃ x y z, VR th x c ∧ VR th y d ∧ VR th z g ∧ bs = [(Str.ofString a, x), (Str.ofString b, y), (Str.ofString f, z)] := by
  unfold ar3 at e
  split at e
  · cases e; obtain ⟨c, d, g, rfl, h, h2, h3⟩ := vrs3 r; exact ⟨c, d, g, rfl, _, _, _, h, h2, h3, rfl⟩
  · cases e
theorem invPeek {th : Th} {vs : List V} {cs : List Value} {bs : List (Str × V)} (r : VRs th vs cs) (e : arPeek vs = some bs) : ∃ c, cs = [c] ∧ ∃ x, VR th x c ∧ bs = [(Str.ofString "self", x), (Str.ofString "ahead", .int 0)] := by
  unfold arPeek at e
  split at e
  · cases e; obtain ⟨c, rfl, h⟩ := vrs1 r; exact ⟨c, rfl, _, h, rfl⟩
  · cases e
theorem invInit {th : Th} {vs : List V} {cs : List Value} {bs : List (Str × V)} (r : VRs th vs cs) (e : arInit vs = some bs) :
    (∃ c d, cs = [c, d] ∧ ∃ x y, VR th x c ∧ VR th y d ∧ bs = [(Str.ofString "self", x), (Str.ofString "data", y), (Str.ofString "at", .int 0), (Str.ofString "end", .int (-1))]) ∨
    (∃ c d f, cs = [c, d, f] ∧ ∃ x y z, VR th x c ∧ VR th y d ∧ VR th z f ∧ bs = [(Str.ofString "self", x), (Str.ofString "data", y), (Str.ofString "at", z), (Str.ofString "end", .int (-1))]) ∨
    ∃ c d f g, cs = [c, d, f, g] ∧ ∃ x y z u, VR th x c ∧ VR th y d ∧ VR th z f ∧ VR th u g ∧ bs = [(Str.ofString "self", x), (Str.ofString "data", y), (Str.ofString "at", z), (Str.ofString "end", u)] := by
  unfold arInit at e
  split at e
  · cases e; obtain ⟨c, d, rfl, h, h2⟩ := vrs2 r; exact .inl ⟨c, d, rfl, _, _, h, h2, rfl⟩
  · cases e; obtain ⟨c, d, f, rfl, h, h2, h3⟩ := vrs3 r; exact .inr (.inl ⟨c, d, f, rfl, _, _, _, h, h2, h3, rfl⟩)
  · cases e; obtain ⟨c, d, f, g, rfl, h, h2, h3, h4⟩ := vrs4 r; exact .inr (.inr ⟨c, d, f, g, rfl, _, _, _, _, h, h2, h3, h4, rfl⟩)
  · cases e
theorem loc0 {names : List (Str × NameKind)} {cell : Option Str} (_ : true = true) : ∀ (vs : List V) (bs : List (Str × V)), ar0 vs = some bs → ∀ p ∈ bs, locOk names cell p.1 = true := by
  intro vs bs e p hp
  unfold ar0 at e
  split at e
  · cases e; cases hp
  · cases e
theorem loc1 {names : List (Str × NameKind)} {cell : Option Str} {a : String} (h : locOk names cell (Str.ofString a) = true) : ∀ (vs : List V) (bs : List (Str × V)), ar1 a vs = some bs → ∀ p ∈ bs, locOk names cell p.1 = true := by
  intro vs bs e p hp
  unfold ar1 at e
  split at e
  · cases e; obtain rfl := List.mem_singleton.mp hp; exact h
  · cases e
theorem loc2 {names : List (Str × NameKind)} {cell : Option Str} {a b : String} (h : (locOk names cell (Str.ofString a) && locOk names cell (Str.ofString b)) = true) : ∀ (vs : List V) (bs : List (Str × V)), ar2 a b vs = some bs → ∀ p ∈ bs, locOk names cell p.1 = true := by
  rw [Bool.and_eq_true] at h
  intro vs bs e p hp
  unfold ar2 at e
  split at e
  · cases e
    rcases List.mem_cons.mp hp with rfl | hp
    · exact h.1
    · obtain rfl := List.mem_singleton.mp hp; exact h.2
  · cases e
theorem loc3 {names : List (Str × NameKind)} {cell : Option Str} {a b c : String} (h : (locOk names cell (Str.ofString a) && locOk names cell (Str.ofString b) && locOk names cell (Str.ofString c)) = true) : ∀ (vs : List V) (bs : List (Str × V)), ar3 a b c vs = some bs → ∀ p ∈ bs, locOk names cell p.1 = true := by
  rw [Bool.and_eq_true, Bool.and_eq_true] at h
  intro vs bs e p hp
  unfold ar3 at e
  split at e
  · cases e
    rcases List.mem_cons.mp hp with rfl | hp
    · exact h.1.1
    rcases List.mem_cons.mp hp with rfl | hp
    · exact h.1.2
    · obtain rfl := List.mem_singleton.mp hp; exact h.2
  · cases e
theorem locPeek {names : List (Str × NameKind)} {cell : Option Str} (h : (locOk names cell (Str.ofString "self") && locOk names cell (Str.ofString "ahead")) = true) : ∀ (vs : List V) (bs : List (Str × V)), arPeek vs = some bs → ∀ p ∈ bs, locOk names cell p.1 = true := by
  rw [Bool.and_eq_true] at h
  intro vs bs e p hp
  unfold arPeek at e
  split at e
  · cases e
    rcases List.mem_cons.mp hp with rfl | hp
    · exact h.1
    · obtain rfl := List.mem_singleton.mp hp; exact h.2
  · cases e
theorem locInit {names : List (Str × NameKind)} {cell : Option Str} (h : (locOk names cell (Str.ofString "self") && locOk names cell (Str.ofString "data") && locOk names cell (Str.ofString "at") && locOk names cell (Str.ofString "end")) = true) : ∀ (vs : List V) (bs : List (Str × V)), arInit vs = some bs → ∀ p ∈ bs, locOk names cell p.1 = true := by
  rw [Bool.and_eq_true, Bool.and_eq_true, Bool.and_eq_true] at h
  intro vs bs e p hp
  unfold arInit at e
  split at e <;> cases e <;> simp at hp <;> (rcases hp with rfl | rfl | rfl | rfl <;> first | exact h.1.1.1 | exact h.1.1.2 | exact h.1.2 | exact h.2)
theorem df_70 (P : Params) : DfOk P 70 ⟨stAt 11, none, ar1 "code"⟩ (S "is_white") (S "is_white") .none (.str (S "paperhold.cursor") 252) 69 where
  ho := by rfl
  hcd := by kernel_rfl
  kind := by kernel_rfl
  co := by kernel_rfl
  gen := by kernel_rfl
  dbg := by kernel_rfl
  cell := by kernel_rfl
  bind := fun s X th vs cs bs r e => by obtain ⟨c, rfl, _, h1, rfl⟩ := inv1 r e; exact ⟨[(Str.ofString "code", c)], BindsTo.of_eq rfl, ⟨rfl, h1⟩, trivial⟩
  loc := loc1 (by kernel_rfl)
theorem df_77 (P : Params) : DfOk P 77 ⟨stAt 12, none, ar1 "code"⟩ (S "is_regular") (S "is_regular") .none (.str (S "paperhold.cursor") 252) 76 where
  ho := by rfl
  hcd := by kernel_rfl
  kind := by kernel_rfl
  co := by kernel_rfl
  gen := by kernel_rfl
  dbg := by kernel_rfl
  cell := by kernel_rfl
  bind := fun s X th vs cs bs r e => by obtain ⟨c, rfl, _, h1, rfl⟩ := inv1 r e; exact ⟨[(Str.ofString "code", c)], BindsTo.of_eq rfl, ⟨rfl, h1⟩, trivial⟩
  loc := loc1 (by kernel_rfl)
theorem df_99 (P : Params) : DfOk P 99 ⟨meAt 14 0, none, arInit⟩ (S "__init__") (S "Cursor.__init__") (.ref 92) (.str (S "paperhold.cursor") 252) 98 where
  ho := by rfl
  hcd := by kernel_rfl
  kind := by kernel_rfl
  co := by kernel_rfl
  gen := by kernel_rfl
  dbg := by kernel_rfl
  cell := by kernel_rfl
  bind := fun s X th vs cs bs r e => by
      rcases invInit r e with ⟨c, d, rfl, _, _, h1, h2, rfl⟩ | ⟨c, d, f, rfl, _, _, _, h1, h2, h3, rfl⟩ | ⟨c, d, f, g, rfl, _, _, _, _, h1, h2, h3, h4, rfl⟩
      · exact ⟨[(Str.ofString "self", c), (Str.ofString "data", d), (Str.ofString "at", .int 0 313), (Str.ofString "end", .int (-1) 315)], binds_K X rfl (by rfl) rfl rfl rfl, ⟨rfl, h1⟩, ⟨rfl, h2⟩, ⟨rfl, _, rfl⟩, ⟨rfl, _, rfl⟩, trivial⟩
      · exact ⟨[(Str.ofString "self", c), (Str.ofString "data", d), (Str.ofString "at", f), (Str.ofString "end", .int (-1) 315)], binds_K X rfl (by rfl) rfl rfl rfl, ⟨rfl, h1⟩, ⟨rfl, h2⟩, ⟨rfl, h3⟩, ⟨rfl, _, rfl⟩, trivial⟩
      · exact ⟨[(Str.ofString "self", c), (Str.ofString "data", d), (Str.ofString "at", f), (Str.ofString "end", g)], binds_K X rfl (by rfl) rfl rfl rfl, ⟨rfl, h1⟩, ⟨rfl, h2⟩, ⟨rfl, h3⟩, ⟨rfl, h4⟩, trivial⟩
  loc := locInit (by kernel_rfl)
theorem df_106 (P : Params) : DfOk P 106 ⟨meAt 14 1, none, ar1 "self"⟩ (S "is_done") (S "Cursor.is_done") .none (.str (S "paperhold.cursor") 252) 105 where
  ho := by rfl
  hcd := by kernel_rfl
  kind := by kernel_rfl
  co := by kernel_rfl
  gen := by kernel_rfl
  dbg := by kernel_rfl
  cell := by kernel_rfl
  bind := fun s X th vs cs bs r e => by obtain ⟨c, rfl, _, h1, rfl⟩ := inv1 r e; exact ⟨[(Str.ofString "self", c)], BindsTo.of_eq rfl, ⟨rfl, h1⟩, trivial⟩
  loc := loc1 (by kernel_rfl)
theorem df_114 (P : Params) : DfOk P 114 ⟨meAt 14 2, none, arPeek⟩ (S "peek") (S "Cursor.peek") (.ref 107) (.str (S "paperhold.cursor") 252) 113 where
  ho := by rfl
  hcd := by kernel_rfl
  kind := by kernel_rfl
  co := by kernel_rfl
  gen := by kernel_rfl
  dbg := by kernel_rfl
  cell := by kernel_rfl
  bind := fun s X th vs cs bs r e => by obtain ⟨c, rfl, _, h, rfl⟩ := invPeek r e; exact ⟨[(Str.ofString "self", c), (Str.ofString "ahead", .int 0 333)], binds_K X rfl (by rfl) rfl rfl rfl, ⟨rfl, h⟩, ⟨rfl, _, rfl⟩, trivial⟩
  loc := locPeek (by kernel_rfl)
theorem df_121 (P : Params) : DfOk P 121 ⟨meAt 14 3, none, ar1 "self"⟩ (S "take") (S "Cursor.take") .none (.str (S "paperhold.cursor") 252) 120 where
  ho := by rfl
  hcd := by kernel_rfl
  kind := by kernel_rfl
  co := by kernel_rfl
  gen := by kernel_rfl
  dbg := by kernel_rfl
  cell := by kernel_rfl
  bind := fun s X th vs cs bs r e => by obtain ⟨c, rfl, _, h1, rfl⟩ := inv1 r e; exact ⟨[(Str.ofString "self", c)], BindsTo.of_eq rfl, ⟨rfl, h1⟩, trivial⟩
  loc := loc1 (by kernel_rfl)
theorem df_128 (P : Params) : DfOk P 128 ⟨meAt 14 4, none, ar2 "self" "word"⟩ (S "starts") (S "Cursor.starts") .none (.str (S "paperhold.cursor") 252) 127 where
  ho := by rfl
  hcd := by kernel_rfl
  kind := by kernel_rfl
  co := by kernel_rfl
  gen := by kernel_rfl
  dbg := by kernel_rfl
  cell := by kernel_rfl
  bind := fun s X th vs cs bs r e => by obtain ⟨c, d, rfl, _, _, h1, h2, rfl⟩ := inv2 r e; exact ⟨[(Str.ofString "self", c), (Str.ofString "word", d)], BindsTo.of_eq rfl, ⟨rfl, h1⟩, ⟨rfl, h2⟩, trivial⟩
  loc := loc2 (by kernel_rfl)
theorem df_135 (P : Params) : DfOk P 135 ⟨meAt 14 5, none, ar2 "self" "word"⟩ (S "skip") (S "Cursor.skip") .none (.str (S "paperhold.cursor") 252) 134 where
  ho := by rfl
  hcd := by kernel_rfl
  kind := by kernel_rfl
  co := by kernel_rfl
  gen := by kernel_rfl
  dbg := by kernel_rfl
  cell := by kernel_rfl
  bind := fun s X th vs cs bs r e => by obtain ⟨c, d, rfl, _, _, h1, h2, rfl⟩ := inv2 r e; exact ⟨[(Str.ofString "self", c), (Str.ofString "word", d)], BindsTo.of_eq rfl, ⟨rfl, h1⟩, ⟨rfl, h2⟩, trivial⟩
  loc := loc2 (by kernel_rfl)
theorem df_142 (P : Params) : DfOk P 142 ⟨meAt 14 6, none, ar1 "self"⟩ (S "skip_white") (S "Cursor.skip_white") .none (.str (S "paperhold.cursor") 252) 141 where
  ho := by rfl
  hcd := by kernel_rfl
  kind := by kernel_rfl
  co := by kernel_rfl
  gen := by kernel_rfl
  dbg := by kernel_rfl
  cell := by kernel_rfl
  bind := fun s X th vs cs bs r e => by obtain ⟨c, rfl, _, h1, rfl⟩ := inv1 r e; exact ⟨[(Str.ofString "self", c)], BindsTo.of_eq rfl, ⟨rfl, h1⟩, trivial⟩
  loc := loc1 (by kernel_rfl)
theorem df_149 (P : Params) : DfOk P 149 ⟨meAt 14 7, none, ar1 "self"⟩ (S "take_regular") (S "Cursor.take_regular") .none (.str (S "paperhold.cursor") 252) 148 where
  ho := by rfl
  hcd := by kernel_rfl
  kind := by kernel_rfl
  co := by kernel_rfl
  gen := by kernel_rfl
  dbg := by kernel_rfl
  cell := by kernel_rfl
  bind := fun s X th vs cs bs r e => by obtain ⟨c, rfl, _, h1, rfl⟩ := inv1 r e; exact ⟨[(Str.ofString "self", c)], BindsTo.of_eq rfl, ⟨rfl, h1⟩, trivial⟩
  loc := loc1 (by kernel_rfl)
theorem df_156 (P : Params) : DfOk P 156 ⟨meAt 14 8, none, ar1 "self"⟩ (S "skip_line_end") (S "Cursor.skip_line_end") .none (.str (S "paperhold.cursor") 252) 155 where
  ho := by rfl
  hcd := by kernel_rfl
  kind := by kernel_rfl
  co := by kernel_rfl
  gen := by kernel_rfl
  dbg := by kernel_rfl
  cell := by kernel_rfl
  bind := fun s X th vs cs bs r e => by obtain ⟨c, rfl, _, h1, rfl⟩ := inv1 r e; exact ⟨[(Str.ofString "self", c)], BindsTo.of_eq rfl, ⟨rfl, h1⟩, trivial⟩
  loc := loc1 (by kernel_rfl)
theorem df_205 (P : Params) : DfOk P 205 ⟨meAt 21 0, none, ar3 "self" "top" "places"⟩ (S "__init__") (S "Decimal.__init__") .none (.str (S "paperhold.decimals") 434) 204 where
  ho := by rfl
  hcd := by kernel_rfl
  kind := by kernel_rfl
  co := by kernel_rfl
  gen := by kernel_rfl
  dbg := by kernel_rfl
  cell := by kernel_rfl
  bind := fun s X th vs cs bs r e => by obtain ⟨c, d, f, rfl, _, _, _, h1, h2, h3, rfl⟩ := inv3 r e; exact ⟨[(Str.ofString "self", c), (Str.ofString "top", d), (Str.ofString "places", f)], BindsTo.of_eq rfl, ⟨rfl, h1⟩, ⟨rfl, h2⟩, ⟨rfl, h3⟩, trivial⟩
  loc := loc3 (by kernel_rfl)
theorem df_268 (P : Params) : DfOk P 268 ⟨meAt 21 9, none, ar1 "self"⟩ (S "told") (S "Decimal.told") .none (.str (S "paperhold.decimals") 434) 267 where
  ho := by rfl
  hcd := by kernel_rfl
  kind := by kernel_rfl
  co := by kernel_rfl
  gen := by kernel_rfl
  dbg := by kernel_rfl
  cell := by kernel_rfl
  bind := fun s X th vs cs bs r e => by obtain ⟨c, rfl, _, h1, rfl⟩ := inv1 r e; exact ⟨[(Str.ofString "self", c)], BindsTo.of_eq rfl, ⟨rfl, h1⟩, trivial⟩
  loc := loc1 (by kernel_rfl)
theorem df_303 (P : Params) : DfOk P 303 ⟨stAt 23, none, ar1 "octets"⟩ (S "read_decimal") (S "read_decimal") .none (.str (S "paperhold.decimals") 434) 302 where
  ho := by rfl
  hcd := by kernel_rfl
  kind := by kernel_rfl
  co := by kernel_rfl
  gen := by kernel_rfl
  dbg := by kernel_rfl
  cell := by kernel_rfl
  bind := fun s X th vs cs bs r e => by obtain ⟨c, rfl, _, h1, rfl⟩ := inv1 r e; exact ⟨[(Str.ofString "octets", c)], BindsTo.of_eq rfl, ⟨rfl, h1⟩, trivial⟩
  loc := loc1 (by kernel_rfl)
theorem df_311 (P : Params) : DfOk P 311 ⟨stAt 33, none, ar1 "code"⟩ (S "hex_worth") (S "hex_worth") .none (.str (S "paperhold.lexer") 579) 310 where
  ho := by rfl
  hcd := by kernel_rfl
  kind := by kernel_rfl
  co := by kernel_rfl
  gen := by kernel_rfl
  dbg := by kernel_rfl
  cell := by kernel_rfl
  bind := fun s X th vs cs bs r e => by obtain ⟨c, rfl, _, h1, rfl⟩ := inv1 r e; exact ⟨[(Str.ofString "code", c)], BindsTo.of_eq rfl, ⟨rfl, h1⟩, trivial⟩
  loc := loc1 (by kernel_rfl)
theorem df_318 (P : Params) : DfOk P 318 ⟨stAt 34, none, ar1 "code"⟩ (S "plain_escape") (S "plain_escape") .none (.str (S "paperhold.lexer") 579) 317 where
  ho := by rfl
  hcd := by kernel_rfl
  kind := by kernel_rfl
  co := by kernel_rfl
  gen := by kernel_rfl
  dbg := by kernel_rfl
  cell := by kernel_rfl
  bind := fun s X th vs cs bs r e => by obtain ⟨c, rfl, _, h1, rfl⟩ := inv1 r e; exact ⟨[(Str.ofString "code", c)], BindsTo.of_eq rfl, ⟨rfl, h1⟩, trivial⟩
  loc := loc1 (by kernel_rfl)
theorem df_326 (P : Params) : DfOk P 326 ⟨stAt 35, none, ar2 "octets" "at"⟩ (S "name_text") (S "name_text") (.ref 319) (.str (S "paperhold.lexer") 579) 325 where
  ho := by rfl
  hcd := by kernel_rfl
  kind := by kernel_rfl
  co := by kernel_rfl
  gen := by kernel_rfl
  dbg := by kernel_rfl
  cell := by kernel_rfl
  bind := fun s X th vs cs bs r e => by obtain ⟨c, d, rfl, _, _, h1, h2, rfl⟩ := inv2 r e; exact ⟨[(Str.ofString "octets", c), (Str.ofString "at", d)], binds_K X rfl (by rfl) rfl rfl rfl, ⟨rfl, h1⟩, ⟨rfl, h2⟩, trivial⟩
  loc := loc2 (by kernel_rfl)
theorem df_333 (P : Params) : DfOk P 333 ⟨stAt 36, none, ar2 "cursor" "first"⟩ (S "octal") (S "octal") .none (.str (S "paperhold.lexer") 579) 332 where
  ho := by rfl
  hcd := by kernel_rfl
  kind := by kernel_rfl
  co := by kernel_rfl
  gen := by kernel_rfl
  dbg := by kernel_rfl
  cell := by kernel_rfl
  bind := fun s X th vs cs bs r e => by obtain ⟨c, d, rfl, _, _, h1, h2, rfl⟩ := inv2 r e; exact ⟨[(Str.ofString "cursor", c), (Str.ofString "first", d)], BindsTo.of_eq rfl, ⟨rfl, h1⟩, ⟨rfl, h2⟩, trivial⟩
  loc := loc2 (by kernel_rfl)
theorem df_340 (P : Params) : DfOk P 340 ⟨stAt 37, none, ar1 "cursor"⟩ (S "escaped_codes") (S "escaped_codes") .none (.str (S "paperhold.lexer") 579) 339 where
  ho := by rfl
  hcd := by kernel_rfl
  kind := by kernel_rfl
  co := by kernel_rfl
  gen := by kernel_rfl
  dbg := by kernel_rfl
  cell := by kernel_rfl
  bind := fun s X th vs cs bs r e => by obtain ⟨c, rfl, _, h1, rfl⟩ := inv1 r e; exact ⟨[(Str.ofString "cursor", c)], BindsTo.of_eq rfl, ⟨rfl, h1⟩, trivial⟩
  loc := loc1 (by kernel_rfl)
theorem df_347 (P : Params) : DfOk P 347 ⟨stAt 38, none, ar1 "cursor"⟩ (S "literal") (S "literal") .none (.str (S "paperhold.lexer") 579) 346 where
  ho := by rfl
  hcd := by kernel_rfl
  kind := by kernel_rfl
  co := by kernel_rfl
  gen := by kernel_rfl
  dbg := by kernel_rfl
  cell := by kernel_rfl
  bind := fun s X th vs cs bs r e => by obtain ⟨c, rfl, _, h1, rfl⟩ := inv1 r e; exact ⟨[(Str.ofString "cursor", c)], BindsTo.of_eq rfl, ⟨rfl, h1⟩, trivial⟩
  loc := loc1 (by kernel_rfl)
theorem df_352 (P : Params) : DfOk P 352 ⟨stAt 39, some (Str.ofString "halves"), ar1 "cursor"⟩ (S "hex_string") (S "hex_string") .none (.str (S "paperhold.lexer") 579) 351 where
  ho := by rfl
  hcd := by kernel_rfl
  kind := by kernel_rfl
  co := by kernel_rfl
  gen := by kernel_rfl
  dbg := by kernel_rfl
  cell := by kernel_rfl
  bind := fun s X th vs cs bs r e => by obtain ⟨c, rfl, _, h1, rfl⟩ := inv1 r e; exact ⟨[(Str.ofString "cursor", c)], BindsTo.of_eq rfl, ⟨rfl, h1⟩, trivial⟩
  loc := loc1 (by kernel_rfl)
theorem df_359 (P : Params) : DfOk P 359 ⟨stAt 40, none, ar2 "cursor" "at"⟩ (S "run_token") (S "run_token") .none (.str (S "paperhold.lexer") 579) 358 where
  ho := by rfl
  hcd := by kernel_rfl
  kind := by kernel_rfl
  co := by kernel_rfl
  gen := by kernel_rfl
  dbg := by kernel_rfl
  cell := by kernel_rfl
  bind := fun s X th vs cs bs r e => by obtain ⟨c, d, rfl, _, _, h1, h2, rfl⟩ := inv2 r e; exact ⟨[(Str.ofString "cursor", c), (Str.ofString "at", d)], BindsTo.of_eq rfl, ⟨rfl, h1⟩, ⟨rfl, h2⟩, trivial⟩
  loc := loc2 (by kernel_rfl)
theorem df_366 (P : Params) : DfOk P 366 ⟨stAt 41, none, ar3 "cursor" "code" "at"⟩ (S "delimited_token") (S "delimited_token") .none (.str (S "paperhold.lexer") 579) 365 where
  ho := by rfl
  hcd := by kernel_rfl
  kind := by kernel_rfl
  co := by kernel_rfl
  gen := by kernel_rfl
  dbg := by kernel_rfl
  cell := by kernel_rfl
  bind := fun s X th vs cs bs r e => by obtain ⟨c, d, f, rfl, _, _, _, h1, h2, h3, rfl⟩ := inv3 r e; exact ⟨[(Str.ofString "cursor", c), (Str.ofString "code", d), (Str.ofString "at", f)], BindsTo.of_eq rfl, ⟨rfl, h1⟩, ⟨rfl, h2⟩, ⟨rfl, h3⟩, trivial⟩
  loc := loc3 (by kernel_rfl)
theorem df_373 (P : Params) : DfOk P 373 ⟨stAt 42, none, ar1 "cursor"⟩ (S "next_token") (S "next_token") .none (.str (S "paperhold.lexer") 579) 372 where
  ho := by rfl
  hcd := by kernel_rfl
  kind := by kernel_rfl
  co := by kernel_rfl
  gen := by kernel_rfl
  dbg := by kernel_rfl
  cell := by kernel_rfl
  bind := fun s X th vs cs bs r e => by obtain ⟨c, rfl, _, h1, rfl⟩ := inv1 r e; exact ⟨[(Str.ofString "cursor", c)], BindsTo.of_eq rfl, ⟨rfl, h1⟩, trivial⟩
  loc := loc1 (by kernel_rfl)
theorem df_380 (P : Params) : DfOk P 380 ⟨stAt 43, none, ar1 "cursor"⟩ (S "tokens_of") (S "tokens_of") .none (.str (S "paperhold.lexer") 579) 379 where
  ho := by rfl
  hcd := by kernel_rfl
  kind := by kernel_rfl
  co := by kernel_rfl
  gen := by kernel_rfl
  dbg := by kernel_rfl
  cell := by kernel_rfl
  bind := fun s X th vs cs bs r e => by obtain ⟨c, rfl, _, h1, rfl⟩ := inv1 r e; exact ⟨[(Str.ofString "cursor", c)], BindsTo.of_eq rfl, ⟨rfl, h1⟩, trivial⟩
  loc := loc1 (by kernel_rfl)
theorem df_388 (P : Params) : DfOk P 388 ⟨stAt 46, none, ar0⟩ (S "_law_whites") (S "_law_whites") .none (.str (S "law_og0183_01") 701) 387 where
  ho := by rfl
  hcd := by kernel_rfl
  kind := by kernel_rfl
  co := by kernel_rfl
  gen := by kernel_rfl
  dbg := by kernel_rfl
  cell := by kernel_rfl
  bind := fun s X th vs cs bs r e => by obtain ⟨rfl, rfl⟩ := inv0 r e; exact ⟨[], BindsTo.of_eq rfl, trivial⟩
  loc := loc0 (by kernel_rfl)
theorem df_395 (P : Params) : DfOk P 395 ⟨stAt 47, none, ar2 "pen" "many"⟩ (S "_law_draw") (S "_law_draw") .none (.str (S "law_og0183_01") 701) 394 where
  ho := by rfl
  hcd := by kernel_rfl
  kind := by kernel_rfl
  co := by kernel_rfl
  gen := by kernel_rfl
  dbg := by kernel_rfl
  cell := by kernel_rfl
  bind := fun s X th vs cs bs r e => by obtain ⟨c, d, rfl, _, _, h1, h2, rfl⟩ := inv2 r e; exact ⟨[(Str.ofString "pen", c), (Str.ofString "many", d)], BindsTo.of_eq rfl, ⟨rfl, h1⟩, ⟨rfl, h2⟩, trivial⟩
  loc := loc2 (by kernel_rfl)
theorem df_400 (P : Params) : DfOk P 400 ⟨stAt 48, some (Str.ofString "pen"), ar1 "pen"⟩ (S "_law_part") (S "_law_part") .none (.str (S "law_og0183_01") 701) 399 where
  ho := by rfl
  hcd := by kernel_rfl
  kind := by kernel_rfl
  co := by kernel_rfl
  gen := by kernel_rfl
  dbg := by kernel_rfl
  cell := by kernel_rfl
  bind := fun s X th vs cs bs r e => by obtain ⟨c, rfl, _, h1, rfl⟩ := inv1 r e; exact ⟨[(Str.ofString "pen", c)], BindsTo.of_eq rfl, ⟨rfl, h1⟩, trivial⟩
  loc := loc1 (by kernel_rfl)
theorem df_407 (P : Params) : DfOk P 407 ⟨stAt 49, none, ar2 "tokens" "moved"⟩ (S "_law_told") (S "_law_told") .none (.str (S "law_og0183_01") 701) 406 where
  ho := by rfl
  hcd := by kernel_rfl
  kind := by kernel_rfl
  co := by kernel_rfl
  gen := by kernel_rfl
  dbg := by kernel_rfl
  cell := by kernel_rfl
  bind := fun s X th vs cs bs r e => by obtain ⟨c, d, rfl, _, _, h1, h2, rfl⟩ := inv2 r e; exact ⟨[(Str.ofString "tokens", c), (Str.ofString "moved", d)], BindsTo.of_eq rfl, ⟨rfl, h1⟩, ⟨rfl, h2⟩, trivial⟩
  loc := loc2 (by kernel_rfl)
theorem df_412 (P : Params) : DfOk P 412 ⟨stAt 50, none, ar1 "script"⟩ (S "law") (S "law") .none (.str (S "law_og0183_01") 701) 411 where
  ho := by rfl
  hcd := by kernel_rfl
  kind := by kernel_rfl
  co := by kernel_rfl
  gen := by kernel_rfl
  dbg := by kernel_rfl
  cell := by kernel_rfl
  bind := fun s X th vs cs bs r e => by obtain ⟨c, rfl, _, h1, rfl⟩ := inv1 r e; exact ⟨[(Str.ofString "script", c)], BindsTo.of_eq rfl, ⟨rfl, h1⟩, trivial⟩
  loc := loc1 (by kernel_rfl)
theorem df_all (P : Params) : ∀ p ∈ DT, ∃ name qual dV pm c, DfOk P p.1 p.2 name qual dV pm c := by
  unfold DT
  repeat' (first
    | exact fun _ h => absurd h List.not_mem_nil
    | refine List.forall_mem_cons.mpr ⟨?_, ?_⟩)
  · exact ⟨_, _, _, _, _, df_70 P⟩
  · exact ⟨_, _, _, _, _, df_77 P⟩
  · exact ⟨_, _, _, _, _, df_99 P⟩
  · exact ⟨_, _, _, _, _, df_106 P⟩
  · exact ⟨_, _, _, _, _, df_114 P⟩
  · exact ⟨_, _, _, _, _, df_121 P⟩
  · exact ⟨_, _, _, _, _, df_128 P⟩
  · exact ⟨_, _, _, _, _, df_135 P⟩
  · exact ⟨_, _, _, _, _, df_142 P⟩
  · exact ⟨_, _, _, _, _, df_149 P⟩
  · exact ⟨_, _, _, _, _, df_156 P⟩
  · exact ⟨_, _, _, _, _, df_205 P⟩
  · exact ⟨_, _, _, _, _, df_268 P⟩
  · exact ⟨_, _, _, _, _, df_303 P⟩
  · exact ⟨_, _, _, _, _, df_311 P⟩
  · exact ⟨_, _, _, _, _, df_318 P⟩
  · exact ⟨_, _, _, _, _, df_326 P⟩
  · exact ⟨_, _, _, _, _, df_333 P⟩
  · exact ⟨_, _, _, _, _, df_340 P⟩
  · exact ⟨_, _, _, _, _, df_347 P⟩
  · exact ⟨_, _, _, _, _, df_352 P⟩
  · exact ⟨_, _, _, _, _, df_359 P⟩
  · exact ⟨_, _, _, _, _, df_366 P⟩
  · exact ⟨_, _, _, _, _, df_373 P⟩
  · exact ⟨_, _, _, _, _, df_380 P⟩
  · exact ⟨_, _, _, _, _, df_388 P⟩
  · exact ⟨_, _, _, _, _, df_395 P⟩
  · exact ⟨_, _, _, _, _, df_400 P⟩
  · exact ⟨_, _, _, _, _, df_407 P⟩
  · exact ⟨_, _, _, _, _, df_412 P⟩
end Mine

open PySem PySem.W PyProof.Rows PySem.Calls
set_option Elab.async false
set_option maxRecDepth 100000
set_option maxHeartbeats 1000000
namespace Mine
section
variable {W : Wd} {prog : Program} {dd : Nat} {cx : Cx} {L : Addr} {th th' : Th} {ls ls' : Ls} {hp hp' : Hp} {s : Shared} {A : Around} {P : Params}
theorem BR2.append {th : Th} : ∀ {a b : List (Str × V)} {c d : List (Str × Value)}, BR2 th a c → BR2 th b d → BR2 th (a ++ b) (c ++ d)
  | [], _, [], _, _, k => k
  | _ :: _, _, _ :: _, _, h, k => ⟨h.1, BR2.append h.2 k⟩
  | [], _, _ :: _, _, h, _ => h.elim
  | _ :: _, _, [], _, h, _ => h.elim
theorem BR2.reverse {th : Th} : ∀ {a : List (Str × V)} {c : List (Str × Value)}, BR2 th a c → BR2 th a.reverse c.reverse
  | [], [], _ => trivial
  | x :: a, y :: c, h => by
    rw [List.reverse_cons, List.reverse_cons]
    exact (BR2.reverse h.2).append ⟨h.1, trivial⟩
  | [], _ :: _, h => h.elim
  | _ :: _, [], h => h.elim
theorem BR2.get {th : Th} {x : Str} {v : V} : ∀ {a : List (Str × V)} {c : List (Str × Value)}, BR2 th a c → a.lookup x = some v → ∃ u, c.lookup x = some u ∧ VR th v u
  | [], [], _, e => by cases e
  | (n, w) :: a, (m, y) :: c, ⟨⟨h1, h2⟩, h⟩, e => by
    dsimp only at h1 h2
    subst h1
    rw [List.lookup_cons] at e ⊢
    cases q : x == n with
    | true => rw [q] at e; cases e; exact ⟨y, rfl, h2⟩
    | false => rw [q] at e; exact BR2.get h e
  | [], _ :: _, h, _ => h.elim
  | _ :: _, [], h, _ => h.elim
theorem BR2.none {th : Th} {x : Str} : ∀ {a : List (Str × V)} {c : List (Str × Value)}, BR2 th a c → a.lookup x = none → c.lookup x = none
  | [], [], _, _ => rfl
  | (n, w) :: a, (m, y) :: c, ⟨⟨h1, h2⟩, h⟩, e => by
    dsimp only at h1 h2
    subst h1
    rw [List.lookup_cons] at e ⊢
    cases q : x == n with
    | true => rw [q] at e; cases e
    | false => rw [q] at e; exact BR2.none h e
  | [], _ :: _, h, _ => h.elim
  | _ :: _, [], h, _ => h.elim
theorem BR2.mem {th : Th} : ∀ {a : List (Str × V)} {c : List (Str × Value)}, BR2 th a c → ∀ q ∈ c, ∃ p ∈ a, p.1 = q.1
  | [], [], _, _, h => nomatch h
  | p :: a, y :: c, ⟨⟨h1, h2⟩, h⟩, q, hq => by
    cases hq with
    | head => exact ⟨p, .head _, h1⟩
    | tail _ hq => obtain ⟨p', a1, a2⟩ := BR2.mem h q hq; exact ⟨p', .tail _ a1, a2⟩
  | [], _ :: _, h, _, _ => h.elim
  | _ :: _, [], h, _, _ => h.elim
/-- back in the caller's frame -/
theorem Inv.back (I : Inv W L th ls hp s) {L' : Addr} {t1 : Th} {h1 : Heap} {s' : Shared} (kept : ∀ b o, s.heap.get? b = some o → h1.get? b = some o) (pre : th <+: t1) (offL : L ∉ AS t1) (fr : s.heap.get? L' = none) (J : Inv W L' th' ls' hp' s') (g : Go L' t1 h1 th' s'.heap) : Inv W L th' ls hp' s' := by
  have hL : L ≠ L' := fun q => by obtain ⟨o, e⟩ := I.live; rw [q, fr] at e; cases e
  have kL : ∀ o, s.heap.get? L = some o → s'.heap.get? L = some o := fun o e => g.ext L o offL hL (kept _ _ e)
  have offL' : L ∉ AS th' := fun q => by
    rcases g.new L q with q | q
    · exact offL q
    · obtain ⟨o, e⟩ := I.live; rw [kept _ _ e] at q; cases q
  obtain ⟨m, F, hm⟩ := I.lo
  obtain ⟨o, es, ep, a1, a2⟩ := F.ns
  exact ⟨J.hr, ⟨m, ⟨⟨o, es, ep, kL o a1, a2⟩, J.hr.keep, F.above⟩, fun y u e => let ⟨c, b1, b2⟩ := hm y u e; ⟨c, b1, b2.mono (pre.trans g.pre)⟩⟩, offL', J.gens, J.os⟩
noncomputable def flV : Fl → V
  | .ret v => v
  | _ => .none
noncomputable def flC : Flow → Value
  | .ret v => v
  | _ => .none
theorem fl_val {fl : Fl} {f : Flow} (h : FlR th fl f) : VR th (flV fl) (flC f) := by
  cases fl <;> cases f <;> first | exact h.elim | exact h | rfl
theorem run_none {C : Orc} {n : Nat} {sc : Addr × List Int} {df : Df} {bs : List (Str × V)} {v : V} (hc : df.cell = none) (h : runDef C n sc df bs hp = some (v, hp')) :
    ∃ fl l, sAll ((fBody df.st).map (exS 40 ⟨C, n, sc, (fScope df.st).names, []⟩)) (lsOf bs) hp = some (fl, l, hp') ∧ v = flV fl := by
  unfold runDef at h
  rw [hc] at h
  dsimp only at h
  split at h
  · rename_i q; cases h; exact ⟨_, _, q, rfl⟩
  · rename_i f l h0 q hne
    cases h
    refine ⟨f, l, hne, ?_⟩
    cases f <;> first | rfl | exact (q _ rfl).elim | exact (q _ _ _ hne).elim | exact (q _ _ hne).elim
  · cases h
theorem run_some {C : Orc} {n : Nat} {sc : Addr × List Int} {df : Df} {bs : List (Str × V)} {v : V} {x : Str} (hc : df.cell = some x) (h : runDef C n sc df bs hp = some (v, hp')) :
    ∃ fl l, sAll ((fBody df.st).map (exS 40 ⟨C, n, sc, (fScope df.st).names, [(x, hp.length)]⟩)) (fun y => if y = x then none else bs.reverse.lookup y) (hp ++ [.cell (bs.reverse.lookup x)]) = some (fl, l, hp') ∧ v = flV fl := by
  unfold runDef at h
  rw [hc] at h
  dsimp only at h
  split at h
  · rename_i q; cases h; exact ⟨_, _, q, rfl⟩
  · rename_i f l h0 q hne
    cases h
    refine ⟨f, l, hne, ?_⟩
    cases f <;> first | rfl | exact (q _ rfl).elim | exact (q _ _ _ hne).elim | exact (q _ _ hne).elim
  · cases h
theorem call_none {a : Addr} {df : Df} {name qual : Str} {dV pm : Value} {c : Addr} (D : DfOk W.w.params a df name qual dV pm c) (hc : df.cell = none) {C : Orc} {n : Nat} (hC : CallOK W prog C dd) (R : Rm A (dd + 2)) (I : Inv W L th ls hp s) {vs : List V} {cs : List Value} {bs : List (Str × V)} {v : V}
    (hv : VRs th vs cs) (hb : df.ar vs = some bs) (h : runDef C n W.sc df bs hp = some (v, hp')) : codeAny (model prog W.w) A (.call (.ref a) ⟨cs, []⟩) (RC (Post W L th ls hp' v s)) s := by
  obtain ⟨fl, l, q, hv'⟩ := run_none hc h
  obtain ⟨cb, B, br⟩ := D.bind s I.kin th vs cs bs hv hb
  have cell0 : ∀ x ∈ (fScope df.st).names, x.2 ≠ .cell := fun x hx => by
    have := D.cell
    rw [hc] at this
    have := List.all_eq_true.mp this x hx
    simpa using this
  have loc0 : ∀ x ∈ cb, (fScope df.st).names.lookup x.1 = some .local := fun x hx => by
    obtain ⟨p, h1, h2⟩ := br.mem x hx
    have := D.loc vs bs hb p h1
    rw [hc] at this
    unfold locOk at this
    rw [h2] at this
    simpa using this
  refine codeAny_call_def (fd := fnOf name qual (fArgs df.st) (fBody df.st) (fScope df.st) dV .none .none pm none (.ref c) .none) (body := fBody df.st) R.room (I.kin _ _ D.ho) rfl (W.lim.keeps I.keep) (codeRec_of I.kin D.hcd) rfl B cell0 loc0 (fun h1 hns kept => ?_) D.co D.gen D.kind
  generalize hL : s.heap.objs.size = L' at hns ⊢
  have fr : s.heap.get? L' = none := hL ▸ fresh_size s.heap
  have hLA : L' ∉ AS th := fun q => by obtain ⟨o, e⟩ := I.hr.live L' q; rw [fr] at e; cases e
  have hL0 : W.h0.get? L' = none := by
    cases e : W.h0.get? L' with
    | none => rfl
    | some o => have := I.keep L' o e; rw [fr] at this; cases this
  have above : W.h0.objs.size ≤ L' := by
    obtain ⟨m, F, _⟩ := I.lo
    rw [← hL]
    exact Nat.le_trans F.above (Nat.le_of_lt F.ns.lt)
  have hr1 : HR W.w.params W.h0 th hp h1 := I.hr.stays hLA hL0 fun b o _ e => kept b o e
  have J : Inv W L' th (lsOf bs) hp { s with heap := h1, toks := s.toks + cb.length } :=
    ⟨hr1, ⟨_, ⟨hns, fun b o e => kept b o (I.keep b o e), above⟩, fun x v e => br.reverse.get e⟩, hLA, I.gens, I.os⟩
  have H : CxOk W prog dd ⟨C, n, W.sc, (fScope df.st).names, []⟩ := ⟨rfl, hC, D.dbg⟩
  have O : EnvOk ⟨C, n, W.sc, (fScope df.st).names, []⟩ th (callEnv (fnOf name qual (fArgs df.st) (fBody df.st) (fScope df.st) dV .none .none pm none (.ref c) .none) L' a) :=
    ⟨D.kind, rfl, rfl, rfl, fun x i e => by cases e⟩
  have R' : Rm (A.deeper (callEnv (fnOf name qual (fArgs df.st) (fBody df.st) (fScope df.st) dV .none .none pm none (.ref c) .none) L' a)) dd := (Rm.deeper R).less (Nat.le_succ _)
  refine then_any (sound_Xs (d := 40) H (fBody df.st) _ _ th (lsOf bs) hp _ fl l hp' R' O J q) fun f s' ⟨t', J', g', r'⟩ => ?_
  refine ⟨t', I.back kept (List.prefix_refl _) I.off fr J' g', go_join (Go.stays (fun b o _ e => kept b o e) (let ⟨o, e⟩ := I.live; ⟨o, kept _ _ e⟩)) g' fr, ?_⟩
  rw [hv']
  have := fl_val r'
  cases f <;> exact this
theorem bindL_eq {k : Str → Option NameKind} : ∀ (cb : List (Str × Value)) (m : Str → Option Value) (y : Str), bindL k cb m y = if k y = some .local then (cb.reverse.lookup y).or (m y) else m y
  | [], m, y => by simp [bindL]
  | (n, v) :: r, m, y => by
    rw [bindL, bindL_eq r]
    rw [List.reverse_cons, List.lookup_append, List.lookup_cons, List.lookup_nil]
    by_cases hy : k y = some .local
    · rw [if_pos hy, if_pos hy]
      by_cases hn : y = n
      · subst hn; rw [if_pos hy]; simp [Option.or_assoc]
      · have : (y == n) = false := by simpa using hn
        rw [this]
        by_cases hk : k n = some .local
        · rw [if_pos hk, if_neg hn]; simp
        · rw [if_neg hk]; simp
    · rw [if_neg hy, if_neg hy]
      by_cases hk : k n = some .local
      · rw [if_pos hk]
        have hn : y ≠ n := fun q => hy (q ▸ hk)
        rw [if_neg hn]
      · rw [if_neg hk]
theorem bindC_eq {k : Str → Option NameKind} : ∀ (cb : List (Str × Value)) (m : Str → Option Value) (y : Str), bindC k cb m y = if k y = some .local then m y else (cb.reverse.lookup y).or (m y)
  | [], m, y => by simp [bindC]
  | (n, v) :: r, m, y => by
    rw [bindC, bindC_eq r]
    rw [List.reverse_cons, List.lookup_append, List.lookup_cons, List.lookup_nil]
    by_cases hy : k y = some .local
    · rw [if_pos hy, if_pos hy]
      by_cases hk : k n = some .local
      · rw [if_pos hk]
      · rw [if_neg hk]
        have hn : y ≠ n := fun q => hk (q ▸ hy)
        rw [if_neg hn]
    · rw [if_neg hy, if_neg hy]
      by_cases hn : y = n
      · subst hn; rw [if_neg hy]; simp [Option.or_assoc]
      · have : (y == n) = false := by simpa using hn
        rw [this]
        by_cases hk : k n = some .local
        · rw [if_pos hk]; simp
        · rw [if_neg hk, if_neg hn]; simp
theorem cellsFrom_filter : ∀ (names : List (Str × NameKind)) (n : Nat) (acc : List (Str × Addr)), cellsFrom n names acc = cellsFrom n (names.filter fun p => p.2 == .cell) acc
  | [], _, _ => rfl
  | (m, k) :: r, n, acc => by
    rw [List.filter_cons]
    by_cases h : (k == NameKind.cell) = true
    · rw [if_pos h, cellsFrom, cellsFrom, if_pos h, if_pos h]; exact cellsFrom_filter r _ _
    · rw [if_neg h, cellsFrom, if_neg h]; exact cellsFrom_filter r _ _
theorem call_cell {a : Addr} {df : Df} {name qual : Str} {dV pm : Value} {c : Addr} {x : Str} (D : DfOk W.w.params a df name qual dV pm c) (hc : df.cell = some x) {C : Orc} {n : Nat} (hC : CallOK W prog C dd) (R : Rm A (dd + 2)) (I : Inv W L th ls hp s) {vs : List V} {cs : List Value} {bs : List (Str × V)} {v : V}
    (hv : VRs th vs cs) (hb : df.ar vs = some bs) (h : runDef C n W.sc df bs hp = some (v, hp')) : codeAny (model prog W.w) A (.call (.ref a) ⟨cs, []⟩) (RC (Post W L th ls hp' v s)) s := by
  obtain ⟨fl, l, q, hv'⟩ := run_some hc h
  obtain ⟨cb, B, br⟩ := D.bind s I.kin th vs cs bs hv hb
  have hcell := D.cell
  rw [hc] at hcell
  simp only [cellsOk, Bool.and_eq_true, beq_iff_eq] at hcell
  obtain ⟨hflt, hkx⟩ := hcell
  have hcells : cellsFrom (s.heap.objs.size + 1) (fScope df.st).names [] = [(x, s.heap.objs.size + 1)] := by
    rw [cellsFrom_filter, hflt]; rfl
  have loc1 : ∀ p ∈ bs, (fScope df.st).names.lookup p.1 = some .local ∨ p.1 = x := fun p hp => by
    have := D.loc vs bs hb p hp
    rw [hc] at this
    unfold locOk at this
    rw [Bool.or_eq_true] at this
    rcases this with z | z
    · exact .inl (by simpa using z)
    · exact .inr (Option.some.inj (eq_of_beq z)).symm
  have hroom := R.room
  refine codeAny_call_function (fd := fnOf name qual (fArgs df.st) (fBody df.st) (fScope df.st) dV .none .none pm none (.ref c) .none) (body := fBody df.st) hroom (I.kin _ _ D.ho) rfl D.co D.gen rfl (codeRec_of I.kin D.hcd) (B _ _ _ _ ?_)
  refine wpAny_newFunctionEnv_cells D.kind (fun p hp => ?_) fun env he s1 X => ?_
  · obtain ⟨p0, h1, h2⟩ := br.mem p hp
    rcases loc1 p0 h1 with z | z
    · exact .inl (h2 ▸ z)
    · refine .inr ⟨?_, ?_⟩
      · rw [← h2, z]; exact hkx
      · rw [hcells, ← h2, z]; simp
  · subst he
    rw [hcells] at X ⊢
    generalize hL : s.heap.objs.size = L' at X ⊢
    have fr : s.heap.get? L' = none := hL ▸ fresh_size s.heap
    have kept := X.toInCall.keep
    obtain ⟨h1, tk1, rfl⟩ := X.toInCall.same
    have hLA : L' ∉ AS th := fun q => by obtain ⟨o, e⟩ := I.hr.live L' q; rw [fr] at e; cases e
    have hL0 : W.h0.get? L' = none := by
      cases e : W.h0.get? L' with
      | none => rfl
      | some o => have := I.keep L' o e; rw [fr] at this; cases this
    have above : W.h0.objs.size ≤ L' := by
      obtain ⟨m, F, _⟩ := I.lo
      rw [← hL]
      exact Nat.le_trans F.above (Nat.le_of_lt F.ns.lt)
    refine ⟨W.lim.keeps fun b o e => kept b o (I.keep b o e), codeAny_func ?_⟩
    -- the caller's frame, the heap as the call has found it
    obtain ⟨I1, g1⟩ := I.kept (k := tk1) (h' := h1) kept
    have cA : (L' + 1 : Nat) ≠ L' := Nat.succ_ne_self _
    have frC : s.heap.get? (L' + 1) = none := by
      cases e : s.heap.get? (L' + 1) with
      | none => rfl
      | some o => have := Heap.lt_size e; rw [hL] at this; exact absurd this (Nat.not_lt.mpr (Nat.le_succ _))
    have hCx : h1.IsCell (L' + 1) (bindC (Env.kindOf (newEnv (fScope df.st) L' mainGlobals [(x, L' + 1)] (qual ++ ".<locals>.") (some a) (.ref c) none builtinsNs)) cb (fun _ => none) x) := X.cell x (L' + 1) (by show List.lookup x [(x, L' + 1)] = _; simp)
    have hkn : ∀ y, Env.kindOf (newEnv (fScope df.st) L' mainGlobals [(x, L' + 1)] (qual ++ ".<locals>.") (some a) (.ref c) none builtinsNs) y = (fScope df.st).names.lookup y := fun y => rfl
    rw [bindC_eq, hkn, hkx, if_neg (by decide)] at hCx
    have hns : h1.Ns L' (bindL (Env.kindOf (newEnv (fScope df.st) L' mainGlobals [(x, L' + 1)] (qual ++ ".<locals>.") (some a) (.ref c) none builtinsNs)) cb (fun _ => none)) := X.toInCall.ns
    -- the ledger with the cell
    have hr1 : HR W.w.params W.h0 th hp h1 := I.hr.stays hLA hL0 fun b o _ e => kept b o e
    have J0 : Inv W L' th (fun _ => none) hp { s with heap := h1, toks := tk1 } :=
      ⟨hr1, ⟨_, ⟨hns, fun b o e => kept b o (I.keep b o e), above⟩, fun _ _ e => by cases e⟩, hLA, I.gens, I.os⟩
    have cellO : OAt W.w.params (th ++ [((L' + 1 : Nat), none)]) h1 (L' + 1, none) (.cell (bs.reverse.lookup x)) := by
      refine ⟨rfl, _, hCx, ?_⟩
      have e0 : ∀ o : Option Value, o.or none = o := fun o => by cases o <;> rfl
      rw [e0]
      cases hbx : bs.reverse.lookup x with
      | none => rw [br.reverse.none hbx]; exact trivial
      | some u =>
        obtain ⟨w, a1, a2⟩ := br.reverse.get hbx
        rw [a1]; exact a2.mono (List.prefix_append _ _)
    have born : HR W.w.params W.h0 (th ++ [((L' + 1 : Nat), none)]) (hp ++ [.cell (bs.reverse.lookup x)]) h1 := by
      refine ⟨by simp [hr1.len], fun j p ob hq ho => ?_, ?_, ?_, hr1.keep⟩
      · by_cases hj : j < th.length
        · rw [List.getElem?_append_left hj] at hq
          rw [List.getElem?_append_left (by rw [← hr1.len]; exact hj)] at ho
          exact (hr1.at_ j p ob hq ho).move (List.prefix_append _ _) fun b _ z e => e
        · have hlen := (List.getElem?_eq_some_iff.mp hq).1
          have hj' : j = th.length := by simp at hlen; omega
          subst hj'
          rw [List.getElem?_append_right (Nat.le_refl _)] at hq
          rw [hr1.len, List.getElem?_append_right (Nat.le_refl _)] at ho
          simp at hq ho
          subst hq; subst ho
          exact cellO
      · rw [AS_append, List.nodup_append]
        refine ⟨hr1.nd, by simp [AS, A1], fun b hb d hd e => ?_⟩
        subst e
        simp [AS, A1] at hd
        subst hd
        obtain ⟨o, e⟩ := I.hr.live _ hb
        rw [frC] at e; cases e
      · intro b hb
        rw [AS_append] at hb
        rcases List.mem_append.mp hb with hb | hb
        · exact hr1.off b hb
        · simp [AS, A1] at hb
          subst hb
          cases e : W.h0.get? (L' + 1) with
          | none => rfl
          | some o => have := I.keep _ o e; rw [frC] at this; cases this
    have gT : Go L th s.heap (th ++ [((L' + 1 : Nat), none)]) h1 := by
      refine ⟨List.prefix_append _ _, fun b o _ _ e => kept b o e, fun b hb => ?_, fun b o e => ⟨o, kept b o e⟩⟩
      rw [AS_append] at hb
      rcases List.mem_append.mp hb with hb | hb
      · exact .inl hb
      · simp [AS, A1] at hb; subst hb; exact .inr frC
    have offL : L ∉ AS (th ++ [((L' + 1 : Nat), none)]) := AS_off I.off fun b hb e => by
      simp [A1] at hb; subst hb; obtain ⟨o, e'⟩ := I.live; rw [← e, frC] at e'; cases e'
    have offL' : L' ∉ AS (th ++ [((L' + 1 : Nat), none)]) := AS_off hLA fun b hb e => by simp [A1] at hb; subst hb; exact cA e
    have J : Inv W L' (th ++ [((L' + 1 : Nat), none)]) (fun y => if y = x then none else bs.reverse.lookup y) (hp ++ [.cell (bs.reverse.lookup x)]) { s with heap := h1, toks := tk1 } := by
      refine ⟨born, ⟨_, ⟨hns, fun b o e => kept b o (I.keep b o e), above⟩, fun y u e => ?_⟩, offL', I.gens, I.os⟩
      by_cases hy : y = x
      · rw [if_pos hy] at e; cases e
      · rw [if_neg hy] at e
        obtain ⟨w, a1, a2⟩ := br.reverse.get e
        have hk : (fScope df.st).names.lookup y = some .local := by
          have hm := lookup_mem e
          rcases loc1 _ (List.mem_reverse.mp hm) with z | z
          · exact z
          · exact absurd z hy
        refine ⟨w, ?_, a2.mono (List.prefix_append _ _)⟩
        rw [bindL_eq, hkn, hk, if_pos rfl, a1]; rfl
    have H : CxOk W prog dd ⟨C, n, W.sc, (fScope df.st).names, [(x, hp.length)]⟩ := ⟨rfl, hC, D.dbg⟩
    have O : EnvOk ⟨C, n, W.sc, (fScope df.st).names, [(x, hp.length)]⟩ (th ++ [((L' + 1 : Nat), none)]) (newEnv (fScope df.st) L' mainGlobals [(x, L' + 1)] (qual ++ ".<locals>.") (some a) (.ref c) none builtinsNs) := by
      refine ⟨D.kind, rfl, rfl, rfl, fun y i e => ?_⟩
      have hy : y = x ∧ i = hp.length := by
        dsimp only at e
        rw [List.lookup_cons, List.lookup_nil] at e
        cases q : y == x with
        | true => rw [q] at e; cases e; exact ⟨eq_of_beq q, rfl⟩
        | false => rw [q] at e; cases e
      obtain ⟨rfl, rfl⟩ := hy
      exact ⟨L' + 1, none, by rw [← I.hr.len]; simp, by show List.lookup y [(y, L' + 1)] = _; simp⟩
    have R' : Rm (A.deeper (newEnv (fScope df.st) L' mainGlobals [(x, L' + 1)] (qual ++ ".<locals>.") (some a) (.ref c) none builtinsNs)) dd := (Rm.deeper R).less (Nat.le_succ _)
    refine then_any (sound_Xs (d := 40) H (fBody df.st) _ _ _ _ _ _ fl l hp' R' O J q) fun f s' ⟨t', J', g', r'⟩ => ?_
    refine ⟨t', I.back kept (List.prefix_append _ _) offL fr J' g', go_join gT g' fr, ?_⟩
    rw [hv']
    have := fl_val r'
    cases f <;> exact this
theorem rm_type {C : Addr} {cs : List Value} (R : Rm A (dd + 1)) : Rm (A.under (.builtin "type.__call__" ⟨.ref C :: cs, []⟩)) dd := by
  have e1 : (A.under (.builtin "type.__call__" ⟨.ref C :: cs, []⟩)).guards = A.guards := by
    have : (Code.builtin "type.__call__" ⟨.ref C :: cs, []⟩).guards = [] := by
      unfold Code.guards
      rw [if_neg (by show ¬ (guardIds.contains "type.__call__") = true; decide +kernel)]
    unfold Around.under
    dsimp only
    rw [this]; rfl
  have e2 : (A.under (.builtin "type.__call__" ⟨.ref C :: cs, []⟩)).depth = A.depth + (Code.builtin "type.__call__" ⟨.ref C :: cs, []⟩).weight := rfl
  have e3 : (A.under (.builtin "type.__call__" ⟨.ref C :: cs, []⟩)).units = A.units + (Code.builtin "type.__call__" ⟨.ref C :: cs, []⟩).cUnits := rfl
  have w1 : (Code.builtin "type.__call__" ⟨.ref C :: cs, []⟩).weight ≤ 5 := by
    exact Nat.le_of_ble_eq_true (by kernel_rfl)
  have w2 : (Code.builtin "type.__call__" ⟨.ref C :: cs, []⟩).cUnits ≤ 50 := by
    exact Nat.le_of_ble_eq_true (by kernel_rfl)
  have h1 := R.dp
  have h2 := R.un
  exact ⟨R.hd, e1.trans R.gd, by omega, by omega⟩
structure ClsOk (K : Frag) (C fI : Addr) : Prop where
  mks : makesIn K C = true
  ini : findIn K (.ref C) "__init__" = some (some (.ref fI))
  fn : typeIn K (.ref fI) = some (.type "function")
theorem cls_ok {C fI : Addr} (h : initOf C = some fI) : ClsOk (KK P) C fI := by
  unfold initOf at h
  split at h
  · rename_i e; cases h; subst e
    exact ⟨by kernel_rfl, by kernel_rfl, by kernel_rfl⟩
  · split at h
    · rename_i e; cases h; subst e
      exact ⟨by kernel_rfl, by kernel_rfl, by kernel_rfl⟩
    · cases h
theorem call_class {C fI : Addr} (hi : initOf C = some fI) {O : Orc} (hC : CallOK W prog O dd) (R : Rm A (dd + 1)) (I : Inv W L th ls hp s) {vs : List V} {cs : List Value} (hv : VRs th vs cs) (h : O fI (.ref hp.length :: vs) (hp ++ [.inst C []]) = some (.none, hp')) :
    codeAny (model prog W.w) A (.call (.ref C) ⟨cs, []⟩) (RC (Post W L th ls hp' (.ref hp.length) s)) s := by
  have K := cls_ok (P := W.w.params) hi
  obtain ⟨hh, g, d, t, os⟩ := s
  refine make_core (makes_of I.kin K.mks) (looks_findIn I.kin K.ini) (fun self => bind_fn I.kin self K.fn) (.inl rfl) ?_
  have kept : ∀ b o, hh.get? b = some o → ((hh.push emptyDict).push (instObj C hh.objs.size)).get? b = some o := fun b o e => Heap.get?_push_of_some _ (Heap.get?_push_of_some _ e)
  have gx : ((hh.push emptyDict).push (instObj C hh.objs.size)).get? (hh.objs.size + 1) = some (instObj C hh.objs.size) := by
    have := Heap.get?_push_size (hh.push emptyDict) (o := instObj C hh.objs.size) rfl
    rwa [Heap.size_push] at this
  have gd : ((hh.push emptyDict).push (instObj C hh.objs.size)).get? hh.objs.size = some emptyDict := Heap.get?_push_of_some _ (Heap.get?_push_size _ rfl)
  have f1 : hh.get? hh.objs.size = none := fresh_size hh
  have f2 : hh.get? (hh.objs.size + 1) = none := by
    cases e : hh.get? (hh.objs.size + 1) with
    | none => rfl
    | some o => have := Heap.lt_size e; exact absurd this (Nat.not_lt.mpr (Nat.le_succ _))
  obtain ⟨I1, g1⟩ := I.born (k := t) (p := ((hh.objs.size + 1 : Nat), some hh.objs.size)) (o := .inst C []) (h' := (hh.push emptyDict).push (instObj C hh.objs.size)) kept
    (fun a ha => by simp [A1] at ha; rcases ha with rfl | rfl; exact f2; exact f1) (by simp [A1]) ⟨hh.objs.size, [], 0, rfl, gx, gd, trivial⟩
  have hx : VR (th ++ [((hh.objs.size + 1 : Nat), some hh.objs.size)]) (.ref hp.length) (.ref (hh.objs.size + 1)) := ⟨hh.objs.size + 1, some hh.objs.size, by rw [← I.hr.len]; simp, rfl⟩
  have hv' : VRs (th ++ [((hh.objs.size + 1 : Nat), some hh.objs.size)]) (.ref hp.length :: vs) (.ref (hh.objs.size + 1) :: cs) := ⟨hx, hv.mono (List.prefix_append _ _)⟩
  refine codeAny_mono (hC.1 _ L _ ls _ _ fI _ _ _ hp' (rm_type R) I1 hv' h) fun r s' hr => ?_
  rcases r with e | (v | _ | _ | _) <;> first | exact hr | exact hr.elim | skip
  obtain ⟨t2, I2, g2, r2⟩ := hr
  cases r2
  exact ⟨rfl, t2, I2, g1.trans g2, hx.mono g2.pre⟩
theorem keep_all : ∀ p ∈ DT, ∀ P, keepIn (KK P) (.ref p.1) = true := by
  intro p hp P
  obtain ⟨name, qual, dV, pm, c, D⟩ := df_all P p hp
  unfold keepIn
  dsimp only
  rw [D.ho]
theorem keep_cls {C fI : Addr} (h : initOf C = some fI) (P : Params) : keepIn (KK P) (.ref C) = true := by
  unfold initOf at h
  split at h
  · rename_i e; subst e; kernel_rfl
  · split at h
    · rename_i e; subst e; kernel_rfl
    · cases h
/-- THE ORACLE -/
theorem orc_ok {n : Nat} : ∀ d : Nat, CallOK W prog (orc n W.sc d) (2 * d) := by
  intro d
  induction d with
  | zero => exact ⟨fun A L th ls hp s a vs cs v hp' _ _ _ h => (nomatch (h : none = some _)), fun a vs hp r h => (nomatch (h : none = some _))⟩
  | succ d ih =>
    refine ⟨fun A L th ls hp s a vs cs v hp' R I hv h => ?_, fun a vs hp r h P => ?_⟩
    · rw [orc] at h
      dsimp only at h
      cases hl : DT.lookup a with
      | some df =>
        rw [hl] at h
        dsimp only at h
        cases hb : df.ar vs with
        | none => rw [hb] at h; cases h
        | some bs =>
          rw [hb] at h
          obtain ⟨name, qual, dV, pm, c, D⟩ := df_all W.w.params _ (lookup_mem2 hl)
          cases hc : df.cell with
          | none => exact call_none D hc ih R I hv hb h
          | some x => exact call_cell D hc ih R I hv hb h
      | none =>
        rw [hl] at h
        dsimp only at h
        cases hi : initOf a with
        | none => rw [hi] at h; cases h
        | some fI =>
          rw [hi] at h
          dsimp only at h
          split at h
          · rename_i h1 q1
            cases h
            exact call_class hi ih (R.less (Nat.le_succ _)) I hv q1
          · cases h
    · rw [orc] at h
      dsimp only at h
      cases hl : DT.lookup a with
      | some df => exact keep_all _ (lookup_mem2 hl) P
      | none =>
        rw [hl] at h
        dsimp only at h
        cases hi : initOf a with
        | none => rw [hi] at h; cases h
        | some fI => exact keep_cls hi P
end
end Mine

open PySem PySem.W PyProof.Rows PySem.Calls
set_option Elab.async false
set_option maxRecDepth 100000
set_option maxHeartbeats 8000000
namespace Mine
theorem top_ok {prog : Program} {A : Around} {s : Shared} {d n : Nat} {b : Bool} {hp' : Hp} (W : Wd) (R : Rm A (2 * d + 2)) (hs : s.heap = W.h0) (hg : s.gens = #[]) (ho : s.os = W.os) (h : orc n W.sc (d + 1) 412 [.scr W.sc.1] [] = some (.bool b, hp')) :
    codeAny (model prog W.w) A (.call (.ref 412) ⟨[.ref W.sc.1], []⟩) (RC fun c s' => c = .bool b ∧ (∀ x o, W.h0.get? x = some o → s'.heap.get? x = some o) ∧ s'.gens = #[] ∧ s'.os = W.os) s := by
  have D := df_412 W.w.params
  have kin : (KK W.w.params).In s.heap := hs ▸ W.kin
  have hl : DT.lookup 412 = some ⟨stAt 50, none, ar1 "script"⟩ := by rfl
  rw [orc] at h
  dsimp only at h
  rw [hl] at h
  dsimp only [ar1] at h
  obtain ⟨fl, l, q, hv'⟩ := run_none rfl h
  have hv : VRs [] [V.scr W.sc.1] [Value.ref W.sc.1] := ⟨rfl, trivial⟩
  obtain ⟨cb, B, br⟩ := D.bind s kin [] _ _ _ hv rfl
  have cell0 : ∀ x ∈ (fScope (stAt 50)).names, x.2 ≠ .cell := fun x hx => by
    have := List.all_eq_true.mp D.cell x hx
    simpa using this
  have loc0 : ∀ x ∈ cb, (fScope (stAt 50)).names.lookup x.1 = some .local := fun x hx => by
    obtain ⟨p, h1, h2⟩ := br.mem x hx
    have := D.loc [V.scr W.sc.1] _ rfl p h1
    unfold locOk at this
    rw [h2] at this
    simpa using this
  refine codeAny_call_def (fd := fnOf _ _ _ _ _ _ .none .none _ none _ .none) (body := fBody (stAt 50)) R.room (kin _ _ D.ho) rfl (hs ▸ W.lim) (codeRec_of kin D.hcd) rfl B cell0 loc0 (fun h1 hns kept => ?_) D.co D.gen D.kind
  generalize hL : s.heap.objs.size = L' at hns ⊢
  have above : W.h0.objs.size ≤ L' := by rw [← hL, hs]; exact Nat.le_refl _
  have kept0 : ∀ x o, W.h0.get? x = some o → h1.get? x = some o := fun x o e => kept x o (hs ▸ e)
  have hr1 : HR W.w.params W.h0 [] [] h1 := ⟨rfl, fun i p o e => by simp at e, by simp [AS], fun a ha => by simp [AS] at ha, kept0⟩
  have J : Inv W L' [] (lsOf [(Str.ofString "script", V.scr W.sc.1)]) [] { s with heap := h1, toks := s.toks + cb.length } :=
    ⟨hr1, ⟨_, ⟨hns, kept0, above⟩, fun x v e => br.reverse.get e⟩, by simp [AS], hg, ho⟩
  have H : CxOk W prog (2 * d) ⟨orc n W.sc d, n, W.sc, (fScope (stAt 50)).names, []⟩ := ⟨rfl, orc_ok d, D.dbg⟩
  refine then_any (sound_Xs (d := 40) H (fBody (stAt 50)) _ _ [] (lsOf [(Str.ofString "script", V.scr W.sc.1)]) [] _ fl l hp' ((Rm.deeper R).less (Nat.le_succ _)) ⟨D.kind, rfl, rfl, rfl, fun x i e => by cases e⟩ J q) fun f s' ⟨t', J', g', r'⟩ => ?_
  have hf := fl_val r'
  rw [← hv'] at hf
  refine ⟨?_, J'.hr.keep, J'.gens, J'.os⟩
  cases f <;> exact hf
/-- the join: what is left is plain -/
theorem of_plain (plain : ∀ (l : Addr) (ns : List Int), ns.length ≤ 63 → ∃ n hp', orc n (l, ns) 13 412 [.scr l] [] = some (.bool true, hp')) : PySem.Challenge.rw_og0183_01.Holds := hd (by
  intro w s₀ s₁ mg mb G K a ha hgens args vals as hpre hlay hrd hwl hlo
  wrow_args hpre hlay hrd hwl hlo
  rename IntsAre _ _ => hI
  rename Heap.IsList _ _ _ => hL
  rename (¬ ((63 : Nat) : Int) < _) => hlen
  rename_i ns _ _ _ _ _ _ _ l vs _ _ _ _ _ _
  have hlen' : ns.length ≤ 63 := by omega
  obtain ⟨n, hp', hrun⟩ := plain l ns hlen'
  have T := topRead_of G.T
  let W : Wd := ⟨w, s₁.heap, mg, mb, s₁.os, (l, ns), K, T.g, T.b, T.nolimit, T.builtins, ⟨vs, hL, hI⟩, by show ns.length ≤ 1000; omega⟩
  have hf : a = 412 := by
    have h1 : mg (S "law") = some (.ref 412) := mg_of K T.g (by kernel_rfl)
    rw [ha] at h1
    exact Value.ref.inj (Option.some.inj h1)
  subst hf
  have R : Rm callerA (2 * 12 + 2) := ⟨rfl, rfl, by decide, by decide⟩
  refine wpAny_call (codeAny_mono (top_ok (prog := PySem.Challenge.pw_og0183_01) W R rfl hgens rfl hrun) fun r s' hr => ?_)
  rcases r with e | (v | _ | _ | _) <;> first | exact hr.elim | skip
  obtain ⟨rfl, kk, g1, o1⟩ := hr
  refine GoodW.toG ⟨.inl ⟨_, .bool true, [], rfl, raisesW_false (by wrow_none_raised), .bool true, by wrow_post, fun _ => ⟨.nil, fun _ ha => nomatch ha⟩⟩, kk, o1, g1⟩)
end Mine

open PySem PySem.W PyProof.Rows PySem.Calls
set_option Elab.async false
set_option maxRecDepth 100000
set_option maxHeartbeats 1000000
namespace Mine
/-- is_white -/
noncomputable def body_70 (C : Orc) (n : Nat) (sc : Addr × List Int) : List Ex := [(sRet (eTr (tCmp2 (cmpV .In) (eLoc (S "code")) (eV (.seq 62)))))]
theorem den_70 (C : Orc) (n : Nat) (sc : Addr × List Int) : (fBody (stAt 11)).map (exS 40 ⟨C, n, sc, (fScope (stAt 11)).names, []⟩) = body_70 C n sc := by kernel_rfl
/-- is_regular -/
noncomputable def body_77 (C : Orc) (n : Nat) (sc : Addr × List Int) : List Ex := [(sRet (eAnd [(eTr (tCmp2 (cmpV .GtE) (eLoc (S "code")) (eV (.int 0)))), (eTr (tCmp2 (cmpV .NotIn) (eLoc (S "code")) (eV (.seq 62)))), (eTr (tCmp2 (cmpV .NotIn) (eLoc (S "code")) (eV (.seq 63))))]))]
theorem den_77 (C : Orc) (n : Nat) (sc : Addr × List Int) : (fBody (stAt 12)).map (exS 40 ⟨C, n, sc, (fScope (stAt 12)).names, []⟩) = body_77 C n sc := by kernel_rfl
/-- __init__ -/
noncomputable def body_99 (C : Orc) (n : Nat) (sc : Addr × List Int) : List Ex := [(sAttr (eLoc (S "self")) (S "data") (eLoc (S "data"))),
    (sAttr (eLoc (S "self")) (S "at") (eLoc (S "at"))),
    (sAttr (eLoc (S "self")) (S "end") (eIf (tCmp2 (cmpV .Lt) (eLoc (S "end")) (eV (.int 0))) (e1S (callV C) (eV (.bi .len)) [(eLoc (S "data"))]) (e1S (callV C) (eV (.bi .min)) [(eLoc (S "end")), (e1S (callV C) (eV (.bi .len)) [(eLoc (S "data"))])])))]
theorem den_99 (C : Orc) (n : Nat) (sc : Addr × List Int) : (fBody (meAt 14 0)).map (exS 40 ⟨C, n, sc, (fScope (meAt 14 0)).names, []⟩) = body_99 C n sc := by kernel_rfl
/-- is_done -/
noncomputable def body_106 (C : Orc) (n : Nat) (sc : Addr × List Int) : List Ex := [(sRet (eTr (tCmp2 (cmpV .GtE) (e1 (attrV (S "at")) (eLoc (S "self"))) (e1 (attrV (S "end")) (eLoc (S "self"))))))]
theorem den_106 (C : Orc) (n : Nat) (sc : Addr × List Int) : (fBody (meAt 14 1)).map (exS 40 ⟨C, n, sc, (fScope (meAt 14 1)).names, []⟩) = body_106 C n sc := by kernel_rfl
/-- peek -/
noncomputable def body_114 (C : Orc) (n : Nat) (sc : Addr × List Int) : List Ex := [(sAsg (S "spot") (e2 (binV .Add) (e1 (attrV (S "at")) (eLoc (S "self"))) (eLoc (S "ahead")))),
    (sRet (eIf (tCmp2 (cmpV .Lt) (eLoc (S "spot")) (e1 (attrV (S "end")) (eLoc (S "self")))) (e2 idxV (e1 (attrV (S "data")) (eLoc (S "self"))) (eLoc (S "spot"))) (e1 negV (eV (.int 1)))))]
theorem den_114 (C : Orc) (n : Nat) (sc : Addr × List Int) : (fBody (meAt 14 2)).map (exS 40 ⟨C, n, sc, (fScope (meAt 14 2)).names, []⟩) = body_114 C n sc := by kernel_rfl
/-- take -/
noncomputable def body_121 (C : Orc) (n : Nat) (sc : Addr × List Int) : List Ex := [(sIf (tCmp2 (cmpV .GtE) (e1 (attrV (S "at")) (eLoc (S "self"))) (e1 (attrV (S "end")) (eLoc (S "self")))) (sAll [(sRet (e1 negV (eV (.int 1))))]) (sAll [])),
    (sAsg (S "code") (e2 idxV (e1 (attrV (S "data")) (eLoc (S "self"))) (e1 (attrV (S "at")) (eLoc (S "self"))))),
    (sAttr (eLoc (S "self")) (S "at") (e2 (binV .Add) (e1 (attrV (S "at")) (eLoc (S "self"))) (eV (.int 1)))),
    (sRet (eLoc (S "code")))]
theorem den_121 (C : Orc) (n : Nat) (sc : Addr × List Int) : (fBody (meAt 14 3)).map (exS 40 ⟨C, n, sc, (fScope (meAt 14 3)).names, []⟩) = body_121 C n sc := by kernel_rfl
/-- starts -/
noncomputable def body_128 (C : Orc) (n : Nat) (sc : Addr × List Int) : List Ex := [(sRet (eAnd [(eTr (tCmp2 (cmpV .LtE) (e2 (binV .Add) (e1 (attrV (S "at")) (eLoc (S "self"))) (e1S (callV C) (eV (.bi .len)) [(eLoc (S "word"))])) (e1 (attrV (S "end")) (eLoc (S "self"))))), (eTr (tCmp2 (cmpV .Eq) (eCut sc (e1 (attrV (S "data")) (eLoc (S "self"))) (some (e1 (attrV (S "at")) (eLoc (S "self")))) (some (e2 (binV .Add) (e1 (attrV (S "at")) (eLoc (S "self"))) (e1S (callV C) (eV (.bi .len)) [(eLoc (S "word"))])))) (eLoc (S "word"))))]))]
theorem den_128 (C : Orc) (n : Nat) (sc : Addr × List Int) : (fBody (meAt 14 4)).map (exS 40 ⟨C, n, sc, (fScope (meAt 14 4)).names, []⟩) = body_128 C n sc := by kernel_rfl
/-- skip -/
noncomputable def body_135 (C : Orc) (n : Nat) (sc : Addr × List Int) : List Ex := [(sIf (tNot (tOf (eMeth C (S "starts") (eLoc (S "self")) [(eLoc (S "word"))]) trV)) (sAll [(sRet (eV (.bool false)))]) (sAll [])),
    (sAttr (eLoc (S "self")) (S "at") (e2 (binV .Add) (e1 (attrV (S "at")) (eLoc (S "self"))) (e1S (callV C) (eV (.bi .len)) [(eLoc (S "word"))]))),
    (sRet (eV (.bool true)))]
theorem den_135 (C : Orc) (n : Nat) (sc : Addr × List Int) : (fBody (meAt 14 5)).map (exS 40 ⟨C, n, sc, (fScope (meAt 14 5)).names, []⟩) = body_135 C n sc := by kernel_rfl
/-- skip_white -/
noncomputable def body_142 (C : Orc) (n : Nat) (sc : Addr × List Int) : List Ex := [(sWhile (tCmp2 (cmpV .Lt) (e1 (attrV (S "at")) (eLoc (S "self"))) (e1 (attrV (S "end")) (eLoc (S "self")))) (sAll [(sAsg (S "code") (e2 idxV (e1 (attrV (S "data")) (eLoc (S "self"))) (e1 (attrV (S "at")) (eLoc (S "self"))))),
    (sIf (tCmp2 (cmpV .Eq) (eLoc (S "code")) (eV (.int 37))) (sAll [(sWhile (tAnd [(tCmp2 (cmpV .Lt) (e1 (attrV (S "at")) (eLoc (S "self"))) (e1 (attrV (S "end")) (eLoc (S "self")))), (tCmp2 (cmpV .NotIn) (e2 idxV (e1 (attrV (S "data")) (eLoc (S "self"))) (e1 (attrV (S "at")) (eLoc (S "self")))) (eS (newO .tuple) [(eV (.int 10)), (eV (.int 13))]))]) (sAll [(sAttr (eLoc (S "self")) (S "at") (e2 (binV .Add) (e1 (attrV (S "at")) (eLoc (S "self"))) (eV (.int 1))))]) n)]) (sAll [(sIf (tCmp2 (cmpV .In) (eLoc (S "code")) (eV (.seq 62))) (sAll [(sAttr (eLoc (S "self")) (S "at") (e2 (binV .Add) (e1 (attrV (S "at")) (eLoc (S "self"))) (eV (.int 1))))]) (sAll [(sRet (eV .none))]))]))]) n)]
theorem den_142 (C : Orc) (n : Nat) (sc : Addr × List Int) : (fBody (meAt 14 6)).map (exS 40 ⟨C, n, sc, (fScope (meAt 14 6)).names, []⟩) = body_142 C n sc := by kernel_rfl
/-- take_regular -/
noncomputable def body_149 (C : Orc) (n : Nat) (sc : Addr × List Int) : List Ex := [(sAsg (S "first") (e1 (attrV (S "at")) (eLoc (S "self")))),
    (sWhile (tAnd [(tCmp2 (cmpV .Lt) (e1 (attrV (S "at")) (eLoc (S "self"))) (e1 (attrV (S "end")) (eLoc (S "self")))), (tOf (e1S (callV C) (eV (.fn 77)) [(e2 idxV (e1 (attrV (S "data")) (eLoc (S "self"))) (e1 (attrV (S "at")) (eLoc (S "self"))))]) trV)]) (sAll [(sAttr (eLoc (S "self")) (S "at") (e2 (binV .Add) (e1 (attrV (S "at")) (eLoc (S "self"))) (eV (.int 1))))]) n),
    (sRet (eCut sc (e1 (attrV (S "data")) (eLoc (S "self"))) (some (eLoc (S "first"))) (some (e1 (attrV (S "at")) (eLoc (S "self"))))))]
theorem den_149 (C : Orc) (n : Nat) (sc : Addr × List Int) : (fBody (meAt 14 7)).map (exS 40 ⟨C, n, sc, (fScope (meAt 14 7)).names, []⟩) = body_149 C n sc := by kernel_rfl
/-- skip_line_end -/
noncomputable def body_156 (C : Orc) (n : Nat) (sc : Addr × List Int) : List Ex := [(sIf (tCmp2 (cmpV .Eq) (eMeth C (S "peek") (eLoc (S "self")) []) (eV (.int 13))) (sAll [(sAttr (eLoc (S "self")) (S "at") (e2 (binV .Add) (e1 (attrV (S "at")) (eLoc (S "self"))) (eV (.int 1)))),
    (sIf (tCmp2 (cmpV .Eq) (eMeth C (S "peek") (eLoc (S "self")) []) (eV (.int 10))) (sAll [(sAttr (eLoc (S "self")) (S "at") (e2 (binV .Add) (e1 (attrV (S "at")) (eLoc (S "self"))) (eV (.int 1))))]) (sAll [])),
    (sRet (eV (.bool true)))]) (sAll [])),
    (sIf (tCmp2 (cmpV .Eq) (eMeth C (S "peek") (eLoc (S "self")) []) (eV (.int 10))) (sAll [(sAttr (eLoc (S "self")) (S "at") (e2 (binV .Add) (e1 (attrV (S "at")) (eLoc (S "self"))) (eV (.int 1)))),
    (sRet (eV (.bool true)))]) (sAll [])),
    (sRet (eV (.bool false)))]
theorem den_156 (C : Orc) (n : Nat) (sc : Addr × List Int) : (fBody (meAt 14 8)).map (exS 40 ⟨C, n, sc, (fScope (meAt 14 8)).names, []⟩) = body_156 C n sc := by kernel_rfl
/-- __init__ -/
noncomputable def body_205 (C : Orc) (n : Nat) (sc : Addr × List Int) : List Ex := [(sWhile (tAnd [(tCmp2 (cmpV .Gt) (eLoc (S "places")) (eV (.int 0))), (tCmp2 (cmpV .Eq) (e2 (binV .Mod) (eLoc (S "top")) (eV (.int 10))) (eV (.int 0)))]) (sAll [(sAsg (S "top") (e2 (binV .FloorDiv) (eLoc (S "top")) (eV (.int 10)))),
    (sAsg (S "places") (e2 (binV .Sub) (eLoc (S "places")) (eV (.int 1))))]) n),
    (sAttr (eLoc (S "self")) (S "top") (eLoc (S "top"))),
    (sAttr (eLoc (S "self")) (S "places") (eLoc (S "places")))]
theorem den_205 (C : Orc) (n : Nat) (sc : Addr × List Int) : (fBody (meAt 21 0)).map (exS 40 ⟨C, n, sc, (fScope (meAt 21 0)).names, []⟩) = body_205 C n sc := by kernel_rfl
/-- told -/
noncomputable def body_268 (C : Orc) (n : Nat) (sc : Addr × List Int) : List Ex := [(sRet (eS (newO .tuple) [(e1 (attrV (S "top")) (eLoc (S "self"))), (e1 (attrV (S "places")) (eLoc (S "self")))]))]
theorem den_268 (C : Orc) (n : Nat) (sc : Addr × List Int) : (fBody (meAt 21 9)).map (exS 40 ⟨C, n, sc, (fScope (meAt 21 9)).names, []⟩) = body_268 C n sc := by kernel_rfl
/-- read_decimal -/
noncomputable def body_303 (C : Orc) (n : Nat) (sc : Addr × List Int) : List Ex := [(sAsg (S "begun") (eV (.int 0))),
    (sIf (tAnd [(tCmp2 (cmpV .Gt) (e1S (callV C) (eV (.bi .len)) [(eLoc (S "octets"))]) (eV (.int 0))), (tOr [(tCmp2 (cmpV .Eq) (e2 idxV (eLoc (S "octets")) (eV (.int 0))) (eV (.int 43))), (tCmp2 (cmpV .Eq) (e2 idxV (eLoc (S "octets")) (eV (.int 0))) (eV (.int 45)))])]) (sAll [(sAsg (S "begun") (eV (.int 1)))]) (sAll [])),
    (sAsg (S "top") (eV (.int 0))),
    (sAsg (S "numerals") (eV (.int 0))),
    (sAsg (S "places") (e1 negV (eV (.int 1)))),
    (sForB (S "code") (eCut sc (eLoc (S "octets")) (some (eLoc (S "begun"))) none) (sAll [(sIf (tAnd [(tCmp2 (cmpV .Eq) (eLoc (S "code")) (eV (.int 46))), (tCmp2 (cmpV .Lt) (eLoc (S "places")) (eV (.int 0)))]) (sAll [(sAsg (S "places") (eV (.int 0)))]) (sAll [(sIf (tCmp3 (cmpV .LtE) (cmpV .LtE) (eV (.int 48)) (eLoc (S "code")) (e2 (binV .Add) (eV (.int 48)) (eV (.int 9)))) (sAll [(sAsg (S "top") (e2 (binV .Sub) (e2 (binV .Add) (e2 (binV .Mult) (eV (.int 10)) (eLoc (S "top"))) (eLoc (S "code"))) (eV (.int 48)))),
    (sAsg (S "numerals") (e2 (binV .Add) (eLoc (S "numerals")) (eV (.int 1)))),
    (sIf (tCmp2 (cmpV .GtE) (eLoc (S "places")) (eV (.int 0))) (sAll [(sAsg (S "places") (e2 (binV .Add) (eLoc (S "places")) (eV (.int 1))))]) (sAll []))]) (sAll [(sRet (eV .none))]))]))])),
    (sIf (tOr [(tCmp2 (cmpV .Eq) (eLoc (S "numerals")) (eV (.int 0))), (tCmp2 (cmpV .Gt) (eLoc (S "numerals")) (eV (.int 40)))]) (sAll [(sRet (eV .none))]) (sAll [])),
    (sIf (tCmp2 (cmpV .Eq) (e2 idxV (eLoc (S "octets")) (eV (.int 0))) (eV (.int 45))) (sAll [(sAsg (S "top") (e1 negV (eLoc (S "top"))))]) (sAll [])),
    (sRet (eIf (tCmp2 (cmpV .Lt) (eLoc (S "places")) (eV (.int 0))) (eLoc (S "top")) (e1S (callV C) (eV (.fn 285)) [(eLoc (S "top")), (eLoc (S "places"))])))]
theorem den_303 (C : Orc) (n : Nat) (sc : Addr × List Int) : (fBody (stAt 23)).map (exS 40 ⟨C, n, sc, (fScope (stAt 23)).names, []⟩) = body_303 C n sc := by kernel_rfl
/-- hex_worth -/
noncomputable def body_311 (C : Orc) (n : Nat) (sc : Addr × List Int) : List Ex := [(sIf (tCmp3 (cmpV .LtE) (cmpV .LtE) (eV (.int 48)) (eLoc (S "code")) (eV (.int 57))) (sAll [(sRet (e2 (binV .Sub) (eLoc (S "code")) (eV (.int 48))))]) (sAll [])),
    (sIf (tCmp3 (cmpV .LtE) (cmpV .LtE) (eV (.int 65)) (eLoc (S "code")) (eV (.int 70))) (sAll [(sRet (e2 (binV .Sub) (eLoc (S "code")) (eV (.int 55))))]) (sAll [])),
    (sIf (tCmp3 (cmpV .LtE) (cmpV .LtE) (eV (.int 97)) (eLoc (S "code")) (eV (.int 102))) (sAll [(sRet (e2 (binV .Sub) (eLoc (S "code")) (eV (.int 87))))]) (sAll [])),
    (sRet (e1 negV (eV (.int 1))))]
theorem den_311 (C : Orc) (n : Nat) (sc : Addr × List Int) : (fBody (stAt 33)).map (exS 40 ⟨C, n, sc, (fScope (stAt 33)).names, []⟩) = body_311 C n sc := by kernel_rfl
/-- plain_escape -/
noncomputable def body_318 (C : Orc) (n : Nat) (sc : Addr × List Int) : List Ex := [(sIf (tCmp2 (cmpV .Eq) (eLoc (S "code")) (eV (.int 110))) (sAll [(sRet (eV (.int 10)))]) (sAll [])),
    (sIf (tCmp2 (cmpV .Eq) (eLoc (S "code")) (eV (.int 114))) (sAll [(sRet (eV (.int 13)))]) (sAll [])),
    (sIf (tCmp2 (cmpV .Eq) (eLoc (S "code")) (eV (.int 116))) (sAll [(sRet (eV (.int 9)))]) (sAll [])),
    (sIf (tCmp2 (cmpV .Eq) (eLoc (S "code")) (eV (.int 98))) (sAll [(sRet (eV (.int 8)))]) (sAll [])),
    (sIf (tCmp2 (cmpV .Eq) (eLoc (S "code")) (eV (.int 102))) (sAll [(sRet (eV (.int 12)))]) (sAll [])),
    (sRet (eLoc (S "code")))]
theorem den_318 (C : Orc) (n : Nat) (sc : Addr × List Int) : (fBody (stAt 34)).map (exS 40 ⟨C, n, sc, (fScope (stAt 34)).names, []⟩) = body_318 C n sc := by kernel_rfl
/-- name_text -/
noncomputable def body_326 (C : Orc) (n : Nat) (sc : Addr × List Int) : List Ex := [(sAsg (S "signs") (eS (newO .list) [])),
    (sAsg (S "place") (eV (.int 0))),
    (sWhile (tCmp2 (cmpV .Lt) (eLoc (S "place")) (e1S (callV C) (eV (.bi .len)) [(eLoc (S "octets"))])) (sAll [(sAsg (S "code") (e2 idxV (eLoc (S "octets")) (eLoc (S "place")))),
    (sAsg (S "place") (e2 (binV .Add) (eLoc (S "place")) (eV (.int 1)))),
    (sIf (tAnd [(tCmp2 (cmpV .Eq) (eLoc (S "code")) (eV (.int 35))), (tCmp2 (cmpV .Lt) (e2 (binV .Add) (eLoc (S "place")) (eV (.int 1))) (e1S (callV C) (eV (.bi .len)) [(eLoc (S "octets"))]))]) (sAll [(sAsg (S "high") (e1S (callV C) (eV (.fn 311)) [(e2 idxV (eLoc (S "octets")) (eLoc (S "place")))])),
    (sAsg (S "low") (e1S (callV C) (eV (.fn 311)) [(e2 idxV (eLoc (S "octets")) (e2 (binV .Add) (eLoc (S "place")) (eV (.int 1))))])),
    (sIf (tAnd [(tCmp2 (cmpV .GtE) (eLoc (S "high")) (eV (.int 0))), (tCmp2 (cmpV .GtE) (eLoc (S "low")) (eV (.int 0)))]) (sAll [(sAsg (S "code") (e2 (binV .Add) (e2 (binV .Mult) (eV (.int 16)) (eLoc (S "high"))) (eLoc (S "low")))),
    (sAsg (S "place") (e2 (binV .Add) (eLoc (S "place")) (eV (.int 2))))]) (sAll []))]) (sAll [])),
    (sIf (tCmp2 (cmpV .Eq) (eLoc (S "code")) (eV (.int 0))) (sAll [sNo]) (sAll [])),
    (sExpr (eMeth C (S "append") (eLoc (S "signs")) [(e1S (callV C) (eV (.bi .chr)) [(eLoc (S "code"))])]))]) n),
    (sRet (eMeth C (S "join") (eV (.str (S ""))) [(eLoc (S "signs"))]))]
theorem den_326 (C : Orc) (n : Nat) (sc : Addr × List Int) : (fBody (stAt 35)).map (exS 40 ⟨C, n, sc, (fScope (stAt 35)).names, []⟩) = body_326 C n sc := by kernel_rfl
/-- octal -/
noncomputable def body_333 (C : Orc) (n : Nat) (sc : Addr × List Int) : List Ex := [(sAsg (S "code") (e2 (binV .Sub) (eLoc (S "first")) (eV (.int 48)))),
    (sAsg (S "taken") (eV (.int 1))),
    (sWhile (tAnd [(tCmp2 (cmpV .Lt) (eLoc (S "taken")) (eV (.int 3))), (tCmp3 (cmpV .LtE) (cmpV .LtE) (eV (.int 48)) (eMeth C (S "peek") (eLoc (S "cursor")) []) (eV (.int 55)))]) (sAll [(sAsg (S "code") (e2 (binV .Sub) (e2 (binV .Add) (e2 (binV .Mult) (eV (.int 8)) (eLoc (S "code"))) (eMeth C (S "take") (eLoc (S "cursor")) [])) (eV (.int 48)))),
    (sAsg (S "taken") (e2 (binV .Add) (eLoc (S "taken")) (eV (.int 1))))]) n),
    (sRet (e2 (binV .Mod) (eLoc (S "code")) (eV (.int 256))))]
theorem den_333 (C : Orc) (n : Nat) (sc : Addr × List Int) : (fBody (stAt 36)).map (exS 40 ⟨C, n, sc, (fScope (stAt 36)).names, []⟩) = body_333 C n sc := by kernel_rfl
/-- escaped_codes -/
noncomputable def body_340 (C : Orc) (n : Nat) (sc : Addr × List Int) : List Ex := [(sIf (tOf (eMeth C (S "is_done") (eLoc (S "cursor")) []) trV) (sAll [(sRet (eS (newO .list) []))]) (sAll [])),
    (sIf (tOf (eMeth C (S "skip_line_end") (eLoc (S "cursor")) []) trV) (sAll [(sRet (eS (newO .list) []))]) (sAll [])),
    (sAsg (S "code") (eMeth C (S "take") (eLoc (S "cursor")) [])),
    (sIf (tCmp3 (cmpV .LtE) (cmpV .LtE) (eV (.int 48)) (eLoc (S "code")) (eV (.int 55))) (sAll [(sRet (eS (newO .list) [(e1S (callV C) (eV (.fn 333)) [(eLoc (S "cursor")), (eLoc (S "code"))])]))]) (sAll [])),
    (sRet (eS (newO .list) [(e1S (callV C) (eV (.fn 318)) [(eLoc (S "code"))])]))]
theorem den_340 (C : Orc) (n : Nat) (sc : Addr × List Int) : (fBody (stAt 37)).map (exS 40 ⟨C, n, sc, (fScope (stAt 37)).names, []⟩) = body_340 C n sc := by kernel_rfl
/-- literal -/
noncomputable def body_347 (C : Orc) (n : Nat) (sc : Addr × List Int) : List Ex := [(sAsg (S "opening") (e2 (binV .Sub) (e1 (attrV (S "at")) (eLoc (S "cursor"))) (eV (.int 1)))),
    (sAsg (S "codes") (eS (newO .list) [])),
    (sAsg (S "depth") (eV (.int 1))),
    (sWhile (tNot (tOf (eMeth C (S "is_done") (eLoc (S "cursor")) []) trV)) (sAll [(sIf (tOf (eMeth C (S "skip_line_end") (eLoc (S "cursor")) []) trV) (sAll [(sExpr (eMeth C (S "append") (eLoc (S "codes")) [(eV (.int 10))])),
    sCont]) (sAll [])),
    (sAsg (S "code") (eMeth C (S "take") (eLoc (S "cursor")) [])),
    (sIf (tCmp2 (cmpV .Eq) (eLoc (S "code")) (eV (.int 92))) (sAll [(sExpr (eMeth C (S "extend") (eLoc (S "codes")) [(e1S (callV C) (eV (.fn 340)) [(eLoc (S "cursor"))])])),
    sCont]) (sAll [])),
    (sIf (tCmp2 (cmpV .Eq) (eLoc (S "code")) (eV (.int 40))) (sAll [(sAsg (S "depth") (e2 (binV .Add) (eLoc (S "depth")) (eV (.int 1))))]) (sAll [])),
    (sIf (tCmp2 (cmpV .Eq) (eLoc (S "code")) (eV (.int 41))) (sAll [(sAsg (S "depth") (e2 (binV .Sub) (eLoc (S "depth")) (eV (.int 1)))),
    (sIf (tCmp2 (cmpV .Eq) (eLoc (S "depth")) (eV (.int 0))) (sAll [(sRet (e1S (callV C) (eV (.bi .bytes)) [(eLoc (S "codes"))]))]) (sAll []))]) (sAll [])),
    (sExpr (eMeth C (S "append") (eLoc (S "codes")) [(eLoc (S "code"))]))]) n),
    sNo]
theorem den_347 (C : Orc) (n : Nat) (sc : Addr × List Int) : (fBody (stAt 38)).map (exS 40 ⟨C, n, sc, (fScope (stAt 38)).names, []⟩) = body_347 C n sc := by kernel_rfl
/-- hex_string -/
noncomputable def body_352 (C : Orc) (n : Nat) (sc : Addr × List Int) (k : Nat) : List Ex := [(sAsg (S "opening") (e2 (binV .Sub) (e1 (attrV (S "at")) (eLoc (S "cursor"))) (eV (.int 1)))),
    (sAsgC (some k) (eS (newO .list) [])),
    (sWhile (tNot (tOf (eMeth C (S "is_done") (eLoc (S "cursor")) []) trV)) (sAll [(sAsg (S "code") (eMeth C (S "take") (eLoc (S "cursor")) [])),
    (sIf (tCmp2 (cmpV .Eq) (eLoc (S "code")) (eV (.int 62))) (sAll [(sIf (tCmp2 (cmpV .Eq) (e2 (binV .Mod) (e1S (callV C) (eV (.bi .len)) [(eCell (some k))]) (eV (.int 2))) (eV (.int 1))) (sAll [(sExpr (eMeth C (S "append") (eCell (some k)) [(eV (.int 0))]))]) (sAll [])),
    (sRet (e1S (callV C) (eV (.bi .bytes)) [(eCompR (e2 (binV .Add) (e2 (binV .Mult) (eV (.int 16)) (e2 idxV (eCell (some k)) (eLoc (S "place")))) (e2 idxV (eCell (some k)) (e2 (binV .Add) (eLoc (S "place")) (eV (.int 1))))) (S "place") [(eV (.int 0)), (e1S (callV C) (eV (.bi .len)) [(eCell (some k))]), (eV (.int 2))])]))]) (sAll [])),
    (sAsg (S "worth") (e1S (callV C) (eV (.fn 311)) [(eLoc (S "code"))])),
    (sIf (tCmp2 (cmpV .GtE) (eLoc (S "worth")) (eV (.int 0))) (sAll [(sExpr (eMeth C (S "append") (eCell (some k)) [(eLoc (S "worth"))]))]) (sAll [(sIf (tNot (tOf (e1S (callV C) (eV (.fn 70)) [(eLoc (S "code"))]) trV)) (sAll [sNo]) (sAll []))]))]) n),
    sNo]
theorem den_352 (C : Orc) (n : Nat) (sc : Addr × List Int) (k : Nat) : (fBody (stAt 39)).map (exS 40 ⟨C, n, sc, (fScope (stAt 39)).names, [(S "halves", k)]⟩) = body_352 C n sc k := by kernel_rfl
/-- run_token -/
noncomputable def body_359 (C : Orc) (n : Nat) (sc : Addr × List Int) : List Ex := [(sAsg (S "run") (eMeth C (S "take_regular") (eLoc (S "cursor")) [])),
    (sAsg (S "number") (e1S (callV C) (eV (.fn 303)) [(eLoc (S "run"))])),
    (sIf (tCmp2 (cmpV .Is) (eLoc (S "number")) (eV .none)) (sAll [(sRet (eS (newO .tuple) [(eV (.str (S "word"))), (eLoc (S "run")), (eLoc (S "at"))]))]) (sAll [])),
    (sIf (tOf (e1S (callV C) (eV (.bi .isinstance)) [(eLoc (S "number")), (eV (.bi .int))]) trV) (sAll [(sRet (eS (newO .tuple) [(eV (.str (S "int"))), (eLoc (S "number")), (eLoc (S "at"))]))]) (sAll [])),
    (sRet (eS (newO .tuple) [(eV (.str (S "real"))), (eLoc (S "number")), (eLoc (S "at"))]))]
theorem den_359 (C : Orc) (n : Nat) (sc : Addr × List Int) : (fBody (stAt 40)).map (exS 40 ⟨C, n, sc, (fScope (stAt 40)).names, []⟩) = body_359 C n sc := by kernel_rfl
/-- delimited_token -/
noncomputable def body_366 (C : Orc) (n : Nat) (sc : Addr × List Int) : List Ex := [(sIf (tCmp2 (cmpV .Eq) (eLoc (S "code")) (eV (.int 47))) (sAll [(sExpr (eMeth C (S "take") (eLoc (S "cursor")) [])),
    (sRet (eS (newO .tuple) [(eV (.str (S "name"))), (e1S (callV C) (eV (.fn 326)) [(eMeth C (S "take_regular") (eLoc (S "cursor")) []), (eLoc (S "at"))]), (eLoc (S "at"))]))]) (sAll [])),
    (sIf (tCmp2 (cmpV .Eq) (eLoc (S "code")) (eV (.int 40))) (sAll [(sExpr (eMeth C (S "take") (eLoc (S "cursor")) [])),
    (sRet (eS (newO .tuple) [(eV (.str (S "string"))), (e1S (callV C) (eV (.fn 347)) [(eLoc (S "cursor"))]), (eLoc (S "at"))]))]) (sAll [])),
    (sIf (tOf (eMeth C (S "skip") (eLoc (S "cursor")) [(eV (.bytes [60, 60]))]) trV) (sAll [(sRet (eS (newO .tuple) [(eV (.str (S "sign"))), (eV (.bytes [60, 60])), (eLoc (S "at"))]))]) (sAll [])),
    (sIf (tOf (eMeth C (S "skip") (eLoc (S "cursor")) [(eV (.bytes [62, 62]))]) trV) (sAll [(sRet (eS (newO .tuple) [(eV (.str (S "sign"))), (eV (.bytes [62, 62])), (eLoc (S "at"))]))]) (sAll [])),
    (sIf (tCmp2 (cmpV .Eq) (eLoc (S "code")) (eV (.int 60))) (sAll [(sExpr (eMeth C (S "take") (eLoc (S "cursor")) [])),
    (sRet (eS (newO .tuple) [(eV (.str (S "hex"))), (e1S (callV C) (eV (.fn 352)) [(eLoc (S "cursor"))]), (eLoc (S "at"))]))]) (sAll [])),
    (sIf (tCmp2 (cmpV .In) (eLoc (S "code")) (eV (.seq 304))) (sAll [(sExpr (eMeth C (S "take") (eLoc (S "cursor")) [])),
    (sRet (eS (newO .tuple) [(eV (.str (S "sign"))), (e1S (callV C) (eV (.bi .bytes)) [(eS (newO .list) [(eLoc (S "code"))])]), (eLoc (S "at"))]))]) (sAll [])),
    sNo]
theorem den_366 (C : Orc) (n : Nat) (sc : Addr × List Int) : (fBody (stAt 41)).map (exS 40 ⟨C, n, sc, (fScope (stAt 41)).names, []⟩) = body_366 C n sc := by kernel_rfl
/-- next_token -/
noncomputable def body_373 (C : Orc) (n : Nat) (sc : Addr × List Int) : List Ex := [(sExpr (eMeth C (S "skip_white") (eLoc (S "cursor")) [])),
    (sAsg (S "at") (e1 (attrV (S "at")) (eLoc (S "cursor")))),
    (sAsg (S "code") (eMeth C (S "peek") (eLoc (S "cursor")) [])),
    (sIf (tCmp2 (cmpV .Eq) (eLoc (S "code")) (e1 negV (eV (.int 1)))) (sAll [(sRet (eS (newO .tuple) [(eV (.str (S "end"))), (eV (.bytes [])), (eLoc (S "at"))]))]) (sAll [])),
    (sIf (tOr [(tCmp2 (cmpV .Eq) (eLoc (S "code")) (eV (.int 47))), (tCmp2 (cmpV .Eq) (eLoc (S "code")) (eV (.int 40))), (tCmp2 (cmpV .Eq) (eLoc (S "code")) (eV (.int 41))), (tCmp2 (cmpV .Eq) (eLoc (S "code")) (eV (.int 60))), (tCmp2 (cmpV .Eq) (eLoc (S "code")) (eV (.int 62))), (tCmp2 (cmpV .In) (eLoc (S "code")) (eV (.seq 304)))]) (sAll [(sRet (e1S (callV C) (eV (.fn 366)) [(eLoc (S "cursor")), (eLoc (S "code")), (eLoc (S "at"))]))]) (sAll [])),
    (sRet (e1S (callV C) (eV (.fn 359)) [(eLoc (S "cursor")), (eLoc (S "at"))]))]
theorem den_373 (C : Orc) (n : Nat) (sc : Addr × List Int) : (fBody (stAt 42)).map (exS 40 ⟨C, n, sc, (fScope (stAt 42)).names, []⟩) = body_373 C n sc := by kernel_rfl
/-- tokens_of -/
noncomputable def body_380 (C : Orc) (n : Nat) (sc : Addr × List Int) : List Ex := [(sAsg (S "found") (eS (newO .list) [])),
    (sAsg (S "token") (e1S (callV C) (eV (.fn 373)) [(eLoc (S "cursor"))])),
    (sWhile (tCmp2 (cmpV .NotEq) (e2 idxV (eLoc (S "token")) (eV (.int 0))) (eV (.str (S "end")))) (sAll [(sExpr (eMeth C (S "append") (eLoc (S "found")) [(eLoc (S "token"))])),
    (sAsg (S "token") (e1S (callV C) (eV (.fn 373)) [(eLoc (S "cursor"))]))]) n),
    (sRet (eLoc (S "found")))]
theorem den_380 (C : Orc) (n : Nat) (sc : Addr × List Int) : (fBody (stAt 43)).map (exS 40 ⟨C, n, sc, (fScope (stAt 43)).names, []⟩) = body_380 C n sc := by kernel_rfl
/-- _law_whites -/
noncomputable def body_388 (C : Orc) (n : Nat) (sc : Addr × List Int) : List Ex := [(sRet (eS (newO .list) [(eV (.bytes [32])), (eV (.bytes [10])), (eV (.bytes [13, 10])), (eV (.bytes [9, 0])), (eV (.bytes [32, 37, 32, 110, 111, 116, 101, 32, 40, 10])), (eV (.bytes [12, 32, 32]))]))]
theorem den_388 (C : Orc) (n : Nat) (sc : Addr × List Int) : (fBody (stAt 46)).map (exS 40 ⟨C, n, sc, (fScope (stAt 46)).names, []⟩) = body_388 C n sc := by kernel_rfl
/-- _law_draw -/
noncomputable def body_395 (C : Orc) (n : Nat) (sc : Addr × List Int) : List Ex := [(sIf (tCmp2 (cmpV .Gt) (e2 idxV (eLoc (S "pen")) (eV (.int 2))) (eV (.int 0))) (sAll [(sAsg (S "digit") (e2 (binV .Mod) (e2 idxV (eLoc (S "pen")) (eV (.int 2))) (eLoc (S "many")))),
    (sItem (eLoc (S "pen")) (eV (.int 2)) (e2 (binV .FloorDiv) (e2 idxV (eLoc (S "pen")) (eV (.int 2))) (eLoc (S "many")))),
    (sRet (eLoc (S "digit")))]) (sAll [])),
    (sAsg (S "place") (e2 idxV (eLoc (S "pen")) (eV (.int 1)))),
    (sItem (eLoc (S "pen")) (eV (.int 1)) (e2 (binV .Add) (eLoc (S "place")) (eV (.int 1)))),
    (sAsg (S "cell") (eIf (tOf (e2 idxV (eLoc (S "pen")) (eV (.int 0))) trV) (e2 idxV (e2 idxV (eLoc (S "pen")) (eV (.int 0))) (e2 (binV .Mod) (eLoc (S "place")) (e1S (callV C) (eV (.bi .len)) [(e2 idxV (eLoc (S "pen")) (eV (.int 0)))]))) (eV (.int 0)))),
    (sIf (tAnd [(tCmp2 (cmpV .Lt) (eLoc (S "place")) (e1S (callV C) (eV (.bi .len)) [(e2 idxV (eLoc (S "pen")) (eV (.int 0)))])), (tCmp2 (cmpV .GtE) (e1S (callV C) (eV (.bi .abs)) [(eLoc (S "cell"))]) (e2 (binV .Pow) (eV (.int 10)) (eV (.int 18))))]) (sAll [(sAsg (S "great") (e2 (binV .Sub) (e1S (callV C) (eV (.bi .abs)) [(eLoc (S "cell"))]) (e2 (binV .Pow) (eV (.int 10)) (eV (.int 18))))),
    (sItem (eLoc (S "pen")) (eV (.int 2)) (e2 (binV .FloorDiv) (eLoc (S "great")) (eLoc (S "many")))),
    (sRet (e2 (binV .Mod) (eLoc (S "great")) (eLoc (S "many"))))]) (sAll [])),
    (sAsg (S "blend") (e2 (binV .Mod) (e2 (binV .Pow) (e2 (binV .Add) (e2 (binV .Add) (e2 (binV .Mod) (eLoc (S "cell")) (eV (.int 2147483629))) (e2 (binV .Mult) (eV (.int 40503)) (eLoc (S "place")))) (eV (.int 977))) (eV (.int 3))) (eV (.int 2147483587)))),
    (sAsg (S "blend") (e2 (binV .Mod) (e2 (binV .Pow) (e2 (binV .Add) (e2 (binV .Add) (e2 (binV .Mult) (eLoc (S "blend")) (e2 (binV .Add) (e2 (binV .Mult) (eV (.int 2)) (eLoc (S "place"))) (eV (.int 5003)))) (e2 (binV .Mult) (eLoc (S "place")) (eLoc (S "place")))) (eV (.int 11))) (eV (.int 3))) (eV (.int 2147483579)))),
    (sRet (e2 (binV .Mod) (e2 (binV .FloorDiv) (eLoc (S "blend")) (eV (.int 64))) (eLoc (S "many"))))]
theorem den_395 (C : Orc) (n : Nat) (sc : Addr × List Int) : (fBody (stAt 47)).map (exS 40 ⟨C, n, sc, (fScope (stAt 47)).names, []⟩) = body_395 C n sc := by kernel_rfl
/-- _law_part -/
noncomputable def body_400 (C : Orc) (n : Nat) (sc : Addr × List Int) (k : Nat) : List Ex := [(sRet (eMeth C (S "join") (eV (.bytes [])) [(eCompR (e2 idxV (eV (.seq 381)) (e1S (callV C) (eV (.fn 395)) [(eCell (some k)), (eV (.int 24))])) (S "lap") [(e1S (callV C) (eV (.fn 395)) [(eCell (some k)), (eV (.int 6))])])]))]
theorem den_400 (C : Orc) (n : Nat) (sc : Addr × List Int) (k : Nat) : (fBody (stAt 48)).map (exS 40 ⟨C, n, sc, (fScope (stAt 48)).names, [(S "pen", k)]⟩) = body_400 C n sc k := by kernel_rfl
/-- _law_told -/
noncomputable def body_407 (C : Orc) (n : Nat) (sc : Addr × List Int) : List Ex := [(sAsg (S "found") (eS (newO .list) [])),
    (sForT (S "kind") (S "worth") (S "at") (eLoc (S "tokens")) (sAll [(sExpr (eMeth C (S "append") (eLoc (S "found")) [(eS (newO .tuple) [(eLoc (S "kind")), (eIf (tCmp2 (cmpV .Eq) (eLoc (S "kind")) (eV (.str (S "real")))) (eMeth C (S "told") (eLoc (S "worth")) []) (eLoc (S "worth"))), (e2 (binV .Add) (eLoc (S "at")) (eLoc (S "moved")))])]))])),
    (sRet (eLoc (S "found")))]
theorem den_407 (C : Orc) (n : Nat) (sc : Addr × List Int) : (fBody (stAt 49)).map (exS 40 ⟨C, n, sc, (fScope (stAt 49)).names, []⟩) = body_407 C n sc := by kernel_rfl
/-- law -/
noncomputable def body_412 (C : Orc) (n : Nat) (sc : Addr × List Int) : List Ex := [(sAsg (S "pen") (eS (newO .list) [(eCompL (e1S (callV C) (eV (.bi .int)) [(eLoc (S "cell"))]) (S "cell") (eCut sc (eLoc (S "script")) none (some (eV (.int 40))))), (eV (.int 0)), (eV (.int 0))])),
    (sAsg (S "one") (e1S (callV C) (eV (.fn 400)) [(eLoc (S "pen"))])),
    (sAsg (S "other") (e1S (callV C) (eV (.fn 400)) [(eLoc (S "pen"))])),
    (sAsg (S "white") (e2 idxV (e1S (callV C) (eV (.fn 388)) []) (e1S (callV C) (eV (.fn 395)) [(eLoc (S "pen")), (eV (.int 6))]))),
    (sAsg (S "data") (e2 (binV .Add) (e2 (binV .Add) (eLoc (S "one")) (eLoc (S "white"))) (eLoc (S "other")))),
    (sAsg (S "first") (e1S (callV C) (eV (.fn 407)) [(e1S (callV C) (eV (.fn 380)) [(e1S (callV C) (eV (.fn 187)) [(eLoc (S "one"))])]), (eV (.int 0))])),
    (sAsg (S "second") (e1S (callV C) (eV (.fn 407)) [(e1S (callV C) (eV (.fn 380)) [(e1S (callV C) (eV (.fn 187)) [(eLoc (S "other"))])]), (e2 (binV .Add) (e1S (callV C) (eV (.bi .len)) [(eLoc (S "one"))]) (e1S (callV C) (eV (.bi .len)) [(eLoc (S "white"))]))])),
    (sAsg (S "both") (e1S (callV C) (eV (.fn 407)) [(e1S (callV C) (eV (.fn 380)) [(e1S (callV C) (eV (.fn 187)) [(eLoc (S "data"))])]), (eV (.int 0))])),
    (sIf (tCmp2 (cmpV .NotEq) (eLoc (S "both")) (e2 (binV .Add) (eLoc (S "first")) (eLoc (S "second")))) (sAll [(sRet (eV (.bool false)))]) (sAll [])),
    (sAsg (S "ahead") (e2 idxV (e1S (callV C) (eV (.fn 388)) []) (e1S (callV C) (eV (.fn 395)) [(eLoc (S "pen")), (eV (.int 6))]))),
    (sIf (tCmp2 (cmpV .NotEq) (e1S (callV C) (eV (.fn 407)) [(e1S (callV C) (eV (.fn 380)) [(e1S (callV C) (eV (.fn 187)) [(e2 (binV .Add) (e2 (binV .Add) (eLoc (S "ahead")) (eLoc (S "data"))) (eLoc (S "ahead")))])]), (e2 (binV .Sub) (eV (.int 0)) (e1S (callV C) (eV (.bi .len)) [(eLoc (S "ahead"))]))]) (eLoc (S "both"))) (sAll [(sRet (eV (.bool false)))]) (sAll [])),
    (sForR (S "index") [(e1S (callV C) (eV (.bi .len)) [(eLoc (S "both"))])] (sAll [(sIf (tCmp2 (cmpV .NotEq) (e1S (callV C) (eV (.fn 407)) [(e1S (callV C) (eV (.fn 380)) [(e1S (callV C) (eV (.fn 187)) [(eLoc (S "data")), (e2 idxV (e2 idxV (eLoc (S "both")) (eLoc (S "index"))) (eV (.int 2)))])]), (eV (.int 0))]) (eCut sc (eLoc (S "both")) (some (eLoc (S "index"))) none)) (sAll [(sRet (eV (.bool false)))]) (sAll []))])),
    (sIf (tOf (eLoc (S "both")) trV) (sAll [(sAsg (S "begin") (e1S (callV C) (eV (.fn 395)) [(eLoc (S "pen")), (e1S (callV C) (eV (.bi .len)) [(eLoc (S "both"))])])),
    (sAsg (S "end") (e2 (binV .Add) (eLoc (S "begin")) (e1S (callV C) (eV (.fn 395)) [(eLoc (S "pen")), (e2 (binV .Sub) (e1S (callV C) (eV (.bi .len)) [(eLoc (S "both"))]) (eLoc (S "begin")))]))),
    (sIf (tCmp2 (cmpV .NotEq) (e1S (callV C) (eV (.fn 407)) [(e1S (callV C) (eV (.fn 380)) [(e1S (callV C) (eV (.fn 187)) [(eLoc (S "data")), (e2 idxV (e2 idxV (eLoc (S "both")) (eLoc (S "begin"))) (eV (.int 2))), (e2 idxV (e2 idxV (eLoc (S "both")) (eLoc (S "end"))) (eV (.int 2)))])]), (eV (.int 0))]) (eCut sc (eLoc (S "both")) (some (eLoc (S "begin"))) (some (eLoc (S "end"))))) (sAll [(sRet (eV (.bool false)))]) (sAll []))]) (sAll [])),
    (sRet (eTr (tCmp2 (cmpV .Eq) (e1S (callV C) (eV (.fn 380)) [(e1S (callV C) (eV (.fn 187)) [(eLoc (S "data")), (e1S (callV C) (eV (.bi .len)) [(eLoc (S "one"))]), (e2 (binV .Add) (e1S (callV C) (eV (.bi .len)) [(eLoc (S "one"))]) (e1S (callV C) (eV (.bi .len)) [(eLoc (S "white"))]))])]) (eS (newO .list) []))))]
theorem den_412 (C : Orc) (n : Nat) (sc : Addr × List Int) : (fBody (stAt 50)).map (exS 40 ⟨C, n, sc, (fScope (stAt 50)).names, []⟩) = body_412 C n sc := by kernel_rfl
end Mine

open PySem PySem.W PyProof.Rows PySem.Calls
set_option Elab.async false
set_option maxRecDepth 100000
set_option maxHeartbeats 1000000
namespace Mine
theorem ofS_inj {a b : String} (h : Str.ofString a = Str.ofString b) : a = b := by
  rw [Str.ofString_eq_toList, Str.ofString_eq_toList] at h
  have h1 := congrArg Array.toList (Str.mk.inj h)
  simp only [] at h1
  have h2 : a.toList = b.toList := by
    have inj : ∀ (l m : List Char), l.map Char.toNat = m.map Char.toNat → l = m := by
      intro l
      induction l with
      | nil => intro m h; cases m with
        | nil => rfl
        | cons x m => cases h
      | cons x l ih => intro m h; cases m with
        | nil => cases h
        | cons y m =>
          simp only [List.map_cons, List.cons.injEq] at h
          rw [Char.toNat_inj.mp h.1, ih m h.2]
    exact inj _ _ h1
  exact String.toList_inj.mp h2
theorem S_inj (a b : String) : (S a = S b) = (a = b) := propext ⟨ofS_inj, fun h => h ▸ rfl⟩
noncomputable def fin : Option (Fl × Ls × Hp) → Option (V × Hp)
  | some (.ret v, _, h) => some (v, h)
  | some (_, _, h) => some (.none, h)
  | none => none
noncomputable def bindOf (bs : List (Str × V)) : Ls := lsOf bs
theorem runDef_none {C : Orc} {n : Nat} {sc : Addr × List Int} {df : Df} {bs : List (Str × V)} {hp : Hp} (hc : df.cell = none) : runDef C n sc df bs hp = fin (sAll ((fBody df.st).map (exS 40 ⟨C, n, sc, (fScope df.st).names, []⟩)) (lsOf bs) hp) := by
  unfold runDef
  rw [hc]
  dsimp only
  generalize sAll ((fBody df.st).map (exS 40 ⟨C, n, sc, (fScope df.st).names, []⟩)) (lsOf bs) hp = r
  rcases r with _ | ⟨f, l, h⟩
  · rfl
  · cases f <;> rfl
theorem orc_def {n : Nat} {sc : Addr × List Int} {d : Nat} {a : Addr} {df : Df} {bs : List (Str × V)} {vs : List V} {hp : Hp} {B : List Ex} (h1 : DT.lookup a = some df) (h2 : df.ar vs = some bs) (hc : df.cell = none) (hb : (fBody df.st).map (exS 40 ⟨orc n sc d, n, sc, (fScope df.st).names, []⟩) = B) :
    orc n sc (d + 1) a vs hp = fin (sAll B (lsOf bs) hp) := by
  rw [orc]
  dsimp only
  rw [h1]
  dsimp only
  rw [h2]
  dsimp only
  rw [runDef_none hc, hb]
theorem orc_cell {n : Nat} {sc : Addr × List Int} {d : Nat} {a : Addr} {df : Df} {bs : List (Str × V)} {vs : List V} {hp : Hp} {B : List Ex} {x : Str} (h1 : DT.lookup a = some df) (h2 : df.ar vs = some bs) (hc : df.cell = some x) (hb : (fBody df.st).map (exS 40 ⟨orc n sc d, n, sc, (fScope df.st).names, [(x, hp.length)]⟩) = B) :
    orc n sc (d + 1) a vs hp = fin (sAll B (fun y => if y = x then none else bs.reverse.lookup y) (hp ++ [.cell (bs.reverse.lookup x)])) := by
  rw [orc]
  dsimp only
  rw [h1]
  dsimp only
  rw [h2]
  dsimp only
  unfold runDef
  rw [hc]
  dsimp only
  rw [hb]
  generalize sAll B (fun y => if y = x then none else bs.reverse.lookup y) (hp ++ [.cell (bs.reverse.lookup x)]) = r
  rcases r with _ | ⟨f, l, h⟩
  · rfl
  · cases f <;> rfl
theorem orc_class {n : Nat} {sc : Addr × List Int} {d : Nat} {a fI : Addr} {vs : List V} {hp h1 : Hp} (hl : DT.lookup a = none) (hi : initOf a = some fI) (h : orc n sc d fI (.ref hp.length :: vs) (hp ++ [.inst a []]) = some (.none, h1)) : orc n sc (d + 1) a vs hp = some (.ref hp.length, h1) := by
  rw [orc]
  dsimp only
  rw [hl]
  dsimp only
  rw [hi]
  dsimp only
  rw [h]
theorem look_cons (y a : Str) (x : V) (l : List (Str × V)) : List.lookup y ((a, x) :: l) = if y = a then some x else List.lookup y l := by
  rw [List.lookup]
  by_cases h : y = a
  · rw [if_pos h, beq_iff_eq.mpr h]
  · rw [if_neg h, beq_eq_false_iff_ne.mpr h]
theorem ls1 (a : String) (x : V) (y : Str) : lsOf [(Str.ofString a, x)] y = if y = S a then some x else none := by
  show List.lookup y [(S a, x)] = _
  rw [look_cons]; rfl
theorem ls2 (a b : String) (x z : V) (y : Str) : lsOf [(Str.ofString a, x), (Str.ofString b, z)] y = if y = S b then some z else if y = S a then some x else none := by
  show List.lookup y [(S b, z), (S a, x)] = _
  rw [look_cons, look_cons]; rfl
theorem ls3 (a b c : String) (x z w : V) (y : Str) : lsOf [(Str.ofString a, x), (Str.ofString b, z), (Str.ofString c, w)] y = if y = S c then some w else if y = S b then some z else if y = S a then some x else none := by
  show List.lookup y [(S c, w), (S b, z), (S a, x)] = _
  rw [look_cons, look_cons, look_cons]; rfl
theorem ls4 (a b c d : String) (x z w u : V) (y : Str) : lsOf [(Str.ofString a, x), (Str.ofString b, z), (Str.ofString c, w), (Str.ofString d, u)] y = if y = S d then some u else if y = S c then some w else if y = S b then some z else if y = S a then some x else none := by
  show List.lookup y [(S d, u), (S c, w), (S b, z), (S a, x)] = _
  rw [look_cons, look_cons, look_cons, look_cons]; rfl
/-- the cursor -/
noncomputable def cur (d : List UInt8) (a e : Int) : O := .inst 187 [(S "data", .bytes d), (S "at", .int a), (S "end", .int e)]
section
variable {hp : Hp} {c : Nat} {d : List UInt8} {a e : Int} (h : hp[c]? = some (cur d a e))
include h
theorem at_data : attrV (S "data") (.ref c) hp = some (.bytes d, hp) := by
  unfold attrV cur at *
  dsimp only
  rw [h]
  simp only [attrOk, fget, S_inj, String.reduceEq, reduceIte, true_or, or_true, and_true, true_and]
theorem at_at : attrV (S "at") (.ref c) hp = some (.int a, hp) := by
  unfold attrV cur at *
  dsimp only
  rw [h]
  simp only [attrOk, fget, S_inj, String.reduceEq, reduceIte, true_or, or_true, and_true, true_and]
theorem at_end : attrV (S "end") (.ref c) hp = some (.int e, hp) := by
  unfold attrV cur at *
  dsimp only
  rw [h]
  simp only [attrOk, fget, S_inj, String.reduceEq, reduceIte, true_or, or_true, and_true, true_and]
theorem put_at {o t : Ev} {ls : Ls} {h0 h1 : Hp} {x : Int} (ht : t ls h0 = some (.int x, h1)) (ho : o ls h1 = some (.ref c, hp)) : sAttr o (S "at") t ls h0 = some (.next, ls, hp.set c (cur d x e)) := by
  unfold sAttr cur at *
  rw [ht]
  dsimp only
  rw [ho]
  dsimp only
  rw [h]
  simp only [attrOk, fput, S_inj, String.reduceEq, reduceIte, true_or, or_true, and_true, true_and, List.length_cons, List.length_nil, Nat.reduceAdd, Nat.reduceLeDiff]
end
theorem mt_done : MT.lookup (187, S "is_done") = some 106 := by kernel_rfl
theorem mt_peek : MT.lookup (187, S "peek") = some 114 := by kernel_rfl
theorem mt_take : MT.lookup (187, S "take") = some 121 := by kernel_rfl
theorem mt_starts : MT.lookup (187, S "starts") = some 128 := by kernel_rfl
theorem mt_skip : MT.lookup (187, S "skip") = some 135 := by kernel_rfl
theorem mt_white : MT.lookup (187, S "skip_white") = some 142 := by kernel_rfl
theorem mt_reg : MT.lookup (187, S "take_regular") = some 149 := by kernel_rfl
theorem mt_line : MT.lookup (187, S "skip_line_end") = some 156 := by kernel_rfl
theorem mt_told : MT.lookup (285, S "told") = some 268 := by kernel_rfl
section
variable {hp : Hp} {c : Nat} {d : List UInt8} {a e : Int} (h : hp[c]? = some (cur d a e))
include h
theorem me_of {x : String} {f : Addr} (hm : MT.lookup (187, S x) = some f) (hx : x ≠ "data" ∧ x ≠ "at" ∧ x ≠ "end") : methR (S x) (.ref c) hp = some (.fn f) := by
  unfold methR cur at *
  dsimp only
  rw [h]
  have h1 : ¬ "data" = x := fun q => hx.1 q.symm
  have h2 : ¬ "at" = x := fun q => hx.2.1 q.symm
  have h3 : ¬ "end" = x := fun q => hx.2.2 q.symm
  simp only [hm, fget, S_inj, h1, h2, h3, reduceIte]
theorem me_done : methR (S "is_done") (.ref c) hp = some (.fn 106) := me_of h mt_done (by decide)
theorem me_peek : methR (S "peek") (.ref c) hp = some (.fn 114) := me_of h mt_peek (by decide)
theorem me_take : methR (S "take") (.ref c) hp = some (.fn 121) := me_of h mt_take (by decide)
theorem me_starts : methR (S "starts") (.ref c) hp = some (.fn 128) := me_of h mt_starts (by decide)
theorem me_skip : methR (S "skip") (.ref c) hp = some (.fn 135) := me_of h mt_skip (by decide)
theorem me_white : methR (S "skip_white") (.ref c) hp = some (.fn 142) := me_of h mt_white (by decide)
theorem me_reg : methR (S "take_regular") (.ref c) hp = some (.fn 149) := me_of h mt_reg (by decide)
theorem me_line : methR (S "skip_line_end") (.ref c) hp = some (.fn 156) := me_of h mt_line (by decide)
end
theorem me_append {hp : Hp} {c : Nat} {xs : List V} (h : hp[c]? = some (.list xs)) : methR (S "append") (.ref c) hp = some .append := by
  unfold methR
  dsimp only
  rw [h]
  dsimp only
  rw [if_pos rfl]
theorem me_extend {hp : Hp} {c : Nat} {xs : List V} (h : hp[c]? = some (.list xs)) : methR (S "extend") (.ref c) hp = some .extend := by
  unfold methR
  dsimp only
  rw [h]
  dsimp only
  rw [if_neg (by rw [S_inj]; decide), if_pos rfl]
/-- what is left of the window -/
structure Win (d : List UInt8) (a e : Nat) (w : List UInt8) : Prop where
  eq : (d.take e).drop a = w
  le : e ≤ d.length
  lim : d.length ≤ 10000
  ale : a ≤ e
theorem Win.len (W : Win d a e w) : a + w.length = e := by
  have := congrArg List.length W.eq
  have h1 := W.le
  have h2 := W.ale
  rw [List.length_drop, List.length_take] at this
  omega
theorem Win.next (W : Win d a e (x ++ w)) : Win d (a + x.length) e w := by
  refine ⟨?_, W.le, W.lim, ?_⟩
  · rw [← List.drop_drop, W.eq, List.drop_left]
  · have := W.len
    rw [List.length_append] at this
    omega
theorem Win.tail (W : Win d a e (x :: w)) : Win d (a + 1) e w := Win.next (x := [x]) W
theorem Win.lt (W : Win d a e (x :: w)) : a < e := by
  have := W.len
  rw [List.length_cons] at this
  omega
theorem Win.nil (W : Win d a e []) : a = e := by
  have := W.len
  simpa using this
theorem Win.get (W : Win d a e (x :: w)) : d[a]? = some x := by
  have h := congrArg (fun l => l[0]?) W.eq
  simp only [List.getElem?_cons_zero, List.getElem?_drop, Nat.add_zero] at h
  rw [List.getElem?_take] at h
  split at h
  · exact h
  · cases h
theorem Win.idx (W : Win d a e (x :: w)) (hp : Hp) : idxV (.bytes d) (.int (a : Int)) hp = some (.int (x.toNat : Int), hp) := by
  have g := W.get
  have l1 := W.lt
  have l2 := W.le
  have l3 := W.lim
  unfold idxV
  dsimp only
  rw [if_pos (by omega), Int.toNat_natCast, List.getD_eq_getElem?_getD, g, Option.getD_some]
/-- from heap to heap: c becomes o, all else that was there stays -/
structure St (c : Nat) (o : O) (hp hp' : Hp) : Prop where
  at_ : hp'[c]? = some o
  keep : ∀ i x, i ≠ c → hp[i]? = some x → hp'[i]? = some x
theorem St.trans {c : Nat} {o1 o2 : O} {h0 h1 h2 : Hp} (A : St c o1 h0 h1) (B : St c o2 h1 h2) : St c o2 h0 h2 := ⟨B.at_, fun i x hi e => B.keep i x hi (A.keep i x hi e)⟩
theorem St.refl {c : Nat} {o : O} {hp : Hp} (h : hp[c]? = some o) : St c o hp hp := ⟨h, fun _ _ _ e => e⟩
theorem St.set {c : Nat} {o o' : O} {hp : Hp} (h : hp[c]? = some o) : St c o' hp (hp.set c o') := by
  have hc : c < hp.length := by
    rcases Nat.lt_or_ge c hp.length with q | q
    · exact q
    · rw [List.getElem?_eq_none q] at h; cases h
  exact ⟨by rw [List.getElem?_set_self hc], fun i x hi e => by rw [List.getElem?_set_ne (Ne.symm hi)]; exact e⟩
theorem St.push {c : Nat} {o : O} {hp : Hp} (h : hp[c]? = some o) (t : List O) : St c o hp (hp ++ t) := by
  have k : ∀ (i : Nat) x, hp[i]? = some x → (hp ++ t)[i]? = some x := fun i x e => by
    have : i < hp.length := by
      rcases Nat.lt_or_ge i hp.length with q | q
      · exact q
      · rw [List.getElem?_eq_none q] at e; cases e
    rw [List.getElem?_append_left this]; exact e
  exact ⟨k _ _ h, fun i x _ e => k i x e⟩
theorem new_at (hp : Hp) (o : O) : (hp ++ [o])[hp.length]? = some o := by
  rw [List.getElem?_append_right (Nat.le_refl _), Nat.sub_self]; rfl
theorem lt_of_at {hp : Hp} {i : Nat} {o : O} (h : hp[i]? = some o) : i < hp.length := by
  rcases Nat.lt_or_ge i hp.length with q | q
  · exact q
  · rw [List.getElem?_eq_none q] at h; cases h
end Mine

open PySem PySem.W PyProof.Rows PySem.Calls
set_option Elab.async false
set_option maxRecDepth 100000
set_option maxHeartbeats 1000000
namespace Mine
section
variable (ls : Ls) (hp : Hp)
theorem a_sAll0 : sAll [] ls hp = some (.next, ls, hp) := rfl
theorem a_sExpr (e : Ev) (es : List Ex) : sAll (sExpr e :: es) ls hp = match e ls hp with
  | some (.none, h1) => sAll es ls h1
  | some (.int _, h1) => sAll es ls h1
  | some (.bool _, h1) => sAll es ls h1
  | _ => none := by
  show (match sExpr e ls hp with | some (.next, l1, h1) => sAll es l1 h1 | r => r) = _
  unfold sExpr
  rcases e ls hp with _ | ⟨v, h⟩
  · rfl
  · cases v <;> rfl
theorem a_sAsg (x : Str) (e : Ev) (es : List Ex) : sAll (sAsg x e :: es) ls hp = match e ls hp with | some (v, h1) => sAll es (bind1 x v ls) h1 | none => none := by
  show (match sAsg x e ls hp with | some (.next, l1, h1) => sAll es l1 h1 | r => r) = _
  unfold sAsg
  rcases e ls hp with _ | ⟨v, h⟩ <;> rfl
theorem a_sOne (x : Ex) (es : List Ex) (l1 : Ls) (h1 : Hp) (h : x ls hp = some (.next, l1, h1)) : sAll (x :: es) ls hp = sAll es l1 h1 := by
  show (match x ls hp with | some (.next, l1, h1) => sAll es l1 h1 | r => r) = _
  rw [h]
/-- an if whose parts end alike -/
noncomputable def andThen (es : List Ex) : Option (Fl × Ls × Hp) → Option (Fl × Ls × Hp)
  | some (.next, l1, h1) => sAll es l1 h1
  | r => r
theorem a_then0 (es : List Ex) (l1 : Ls) (h1 : Hp) : andThen es (some (.next, l1, h1)) = sAll es l1 h1 := rfl
theorem a_then1 (es : List Ex) (v : V) (l1 : Ls) (h1 : Hp) : andThen es (some (.ret v, l1, h1)) = some (.ret v, l1, h1) := rfl
theorem a_then2 (es : List Ex) (l1 : Ls) (h1 : Hp) : andThen es (some (.cont, l1, h1)) = some (.cont, l1, h1) := rfl
theorem a_sIf (t : Tr) (a b : Ex) (es : List Ex) : sAll (sIf t a b :: es) ls hp = match t ls hp with
  | some (true, h1) => andThen es (a ls h1)
  | some (false, h1) => andThen es (b ls h1)
  | none => none := by
  show (match sIf t a b ls hp with | some (.next, l1, h1) => sAll es l1 h1 | r => r) = _
  unfold sIf
  rcases t ls hp with _ | ⟨v, h⟩
  · rfl
  · cases v
    · show (match b ls h with | some (.next, l1, h1) => sAll es l1 h1 | r => r) = andThen es (b ls h)
      generalize b ls h = r
      rcases r with _ | ⟨f, x, y⟩
      · rfl
      · cases f <;> rfl
    · show (match a ls h with | some (.next, l1, h1) => sAll es l1 h1 | r => r) = andThen es (a ls h)
      generalize a ls h = r
      rcases r with _ | ⟨f, x, y⟩
      · rfl
      · cases f <;> rfl
theorem a_sRet (e : Ev) (es : List Ex) : sAll (sRet e :: es) ls hp = match e ls hp with | some (v, h1) => some (.ret v, ls, h1) | none => none := by
  show (match sRet e ls hp with | some (.next, l1, h1) => sAll es l1 h1 | r => r) = _
  unfold sRet
  rcases e ls hp with _ | ⟨v, h⟩ <;> rfl
theorem a_sCont (es : List Ex) : sAll (sCont :: es) ls hp = some (.cont, ls, hp) := rfl
theorem a_sWhile (t : Tr) (b : Ex) (n : Nat) (es : List Ex) (l1 : Ls) (h1 : Hp) (h : sWhile t b n ls hp = some (.next, l1, h1)) : sAll (sWhile t b n :: es) ls hp = sAll es l1 h1 := a_sOne ls hp _ es l1 h1 h
theorem a_sWhileR (t : Tr) (b : Ex) (n : Nat) (es : List Ex) (v : V) (l1 : Ls) (h1 : Hp) (h : sWhile t b n ls hp = some (.ret v, l1, h1)) : sAll (sWhile t b n :: es) ls hp = some (.ret v, l1, h1) := by
  show (match sWhile t b n ls hp with | some (.next, l1, h1) => sAll es l1 h1 | r => r) = _
  rw [h]
theorem a_eV (v : V) : eV v ls hp = some (v, hp) := rfl
theorem a_eLoc (x : Str) : eLoc x ls hp = match ls x with | some v => some (v, hp) | none => none := rfl
theorem a_e1 (f : V → Hp → Option (V × Hp)) (a : Ev) : e1 f a ls hp = match a ls hp with | some (v, h1) => f v h1 | none => none := rfl
theorem a_e2 (f : V → V → Hp → Option (V × Hp)) (a b : Ev) : e2 f a b ls hp = match a ls hp with
  | some (v, h1) => (match b ls h1 with | some (u, h2) => f v u h2 | none => none)
  | none => none := rfl
theorem a_eAll0 : eAll [] ls hp = some ([], hp) := rfl
theorem a_eAll1 (e : Ev) (es : List Ev) : eAll (e :: es) ls hp = match e ls hp with
    | some (v, h1) => (match eAll es ls h1 with | some (vs, h2) => some (v :: vs, h2) | none => none)
    | none => none := rfl
theorem a_eS (f : List V → Hp → Option (V × Hp)) (es : List Ev) : eS f es ls hp = match eAll es ls hp with | some (vs, h1) => f vs h1 | none => none := rfl
theorem a_e1S (f : V → List V → Hp → Option (V × Hp)) (a : Ev) (es : List Ev) : e1S f a es ls hp = match a ls hp with
  | some (v, h1) => (match eAll es ls h1 with | some (vs, h2) => f v vs h2 | none => none)
  | none => none := rfl
theorem a_eIf (t : Tr) (a b : Ev) : eIf t a b ls hp = match t ls hp with
  | some (true, h1) => a ls h1
  | some (false, h1) => b ls h1
  | none => none := rfl
theorem a_eTr (t : Tr) : eTr t ls hp = match t ls hp with | some (b, h1) => some (.bool b, h1) | none => none := rfl
theorem a_eAnd1 (e : Ev) : eAnd [e] ls hp = e ls hp := rfl
theorem a_eAnd2 (e f : Ev) (es : List Ev) : eAnd (e :: f :: es) ls hp = match e ls hp with
    | some (.bool true, h1) => eAnd (f :: es) ls h1
    | some (.bool false, h1) => some (.bool false, h1)
    | _ => none := rfl
theorem a_tNot (t : Tr) : tNot t ls hp = match t ls hp with | some (b, h1) => some (!b, h1) | none => none := rfl
theorem a_tAnd0 : tAnd [] ls hp = some (true, hp) := rfl
theorem a_tAnd1 (t : Tr) (ts : List Tr) : tAnd (t :: ts) ls hp = match t ls hp with
    | some (true, h1) => tAnd ts ls h1
    | some (false, h1) => some (false, h1)
    | none => none := rfl
theorem a_tOr0 : tOr [] ls hp = some (false, hp) := rfl
theorem a_tOr1 (t : Tr) (ts : List Tr) : tOr (t :: ts) ls hp = match t ls hp with
    | some (false, h1) => tOr ts ls h1
    | some (true, h1) => some (true, h1)
    | none => none := rfl
theorem a_tOf (e : Ev) (f : V → Hp → Option Bool) : tOf e f ls hp = match e ls hp with
  | some (v, h1) => (match f v h1 with | some b => some (b, h1) | none => none)
  | none => none := rfl
theorem a_tCmp2 (f : V → V → Hp → Option Bool) (a b : Ev) : tCmp2 f a b ls hp = match a ls hp with
  | some (v, h1) => (match b ls h1 with
    | some (u, h2) => (match f v u h2 with | some r => some (r, h2) | none => none)
    | none => none)
  | none => none := rfl
theorem a_tCmp3 (f g : V → V → Hp → Option Bool) (a b c : Ev) : tCmp3 f g a b c ls hp = match a ls hp with
  | some (v, h1) => (match b ls h1 with
    | some (u, h2) => (match f v u h2 with
      | some true => (match c ls h2 with
        | some (x, h3) => (match g u x h3 with | some r => some (r, h3) | none => none)
        | none => none)
      | some false => some (false, h2)
      | none => none)
    | none => none)
  | none => none := rfl
theorem a_eMeth (C : Orc) (name : Str) (a : Ev) (es : List Ev) : eMeth C name a es ls hp = match a ls hp with
  | some (v, h1) => (match methR name v h1 with
    | some k => (match eAll es ls h1 with | some (vs, h2) => methC C k v vs h2 | none => none)
    | none => none)
  | none => none := rfl
theorem a_methF (C : Orc) (f : Addr) (v : V) (vs : List V) : methC C (.fn f) v vs hp = C f (v :: vs) hp := rfl
theorem a_eO0 : eO none ls hp = some (none, hp) := rfl
theorem a_eO1 (e : Ev) : eO (some e) ls hp = match e ls hp with | some (v, h1) => some (some v, h1) | none => none := rfl
theorem a_eCut (sc : Addr × List Int) (a : Ev) (l u : Option Ev) : eCut sc a l u ls hp = match a ls hp with
  | some (v, h1) => (match eO l ls h1 with
    | some (x, h2) => (match eO u ls h2 with
      | some (y, h3) => cutV sc v x y h3
      | none => none)
    | none => none)
  | none => none := rfl
theorem a_callF (C : Orc) (a : Addr) (vs : List V) : callV C (.fn a) vs hp = C a vs hp := rfl
theorem a_callB (C : Orc) (b : Bi) (vs : List V) : callV C (.bi b) vs hp = callB b vs hp := rfl
theorem a_bind (x y : Str) (v : V) : bind1 x v ls y = if y = x then some v else ls y := rfl
theorem a_fin1 (v : V) : fin (some (.ret v, ls, hp)) = some (v, hp) := rfl
theorem a_fin2 : fin (some (.next, ls, hp)) = some (.none, hp) := rfl
theorem a_fin3 : fin (some (.cont, ls, hp)) = some (.none, hp) := rfl
theorem a_trB (b : Bool) : trV (.bool b) hp = some b := rfl
theorem a_lt (a b : Int) : cmpV .Lt (.int a) (.int b) hp = some (decide (a < b)) := rfl
theorem a_le (a b : Int) : cmpV .LtE (.int a) (.int b) hp = some (decide (a ≤ b)) := rfl
theorem a_gt (a b : Int) : cmpV .Gt (.int a) (.int b) hp = some (decide (b < a)) := rfl
theorem a_ge (a b : Int) : cmpV .GtE (.int a) (.int b) hp = some (decide (b ≤ a)) := rfl
theorem beq_dec (a b : Int) : (a == b) = decide (a = b) := by
  by_cases h : a = b
  · rw [decide_eq_true h, beq_iff_eq.mpr h]
  · rw [decide_eq_false h, beq_eq_false_iff_ne.mpr h]
theorem a_eq (a b : Int) : cmpV .Eq (.int a) (.int b) hp = some (decide (a = b)) := by
  show some (a == b) = _
  rw [beq_dec]
theorem a_ne (a b : Int) : cmpV .NotEq (.int a) (.int b) hp = some (!decide (a = b)) := by
  show some (!(a == b)) = _
  rw [beq_dec]
theorem a_eqB (a b : List UInt8) : cmpV .Eq (.bytes a) (.bytes b) hp = some (a == b) := rfl
theorem a_eqS (a b : Str) : cmpV .Eq (.str a) (.str b) hp = some (a == b) := rfl
theorem a_neS (a b : Str) : cmpV .NotEq (.str a) (.str b) hp = some (a != b) := rfl
theorem a_add (a b : Int) : binV .Add (.int a) (.int b) hp = some (.int (a + b), hp) := rfl
theorem a_sub (a b : Int) : binV .Sub (.int a) (.int b) hp = some (.int (a - b), hp) := rfl
theorem a_neg (a : Int) : negV (.int a) hp = some (.int (-a), hp) := rfl
theorem a_mod (a b : Int) : binV .Mod (.int a) (.int b) hp = if b = 0 then none else some (.int (a.fmod b), hp) := rfl
theorem a_fdiv (a b : Int) : binV .FloorDiv (.int a) (.int b) hp = if b = 0 ∨ 1000000 ≤ b.natAbs then none else some (.int (a.fdiv b), hp) := rfl
theorem a_mul (a b : Int) : binV .Mult (.int a) (.int b) hp = if a.natAbs < 2 ^ 60 ∧ b.natAbs < 2 ^ 4000 then some (.int (a * b), hp) else none := rfl
theorem a_pow (a b : Int) : binV .Pow (.int a) (.int b) hp = if 0 ≤ b ∧ b ≤ 20 ∧ a.natAbs < 2 ^ 100 then some (.int (a ^ b.toNat), hp) else none := rfl
noncomputable def wl : List Int := [0, 9, 10, 12, 13, 32]
noncomputable def dl : List Int := [40, 41, 60, 62, 91, 93, 123, 125, 47, 37]
noncomputable def gl : List Int := [91, 93, 123, 125]
theorem a_inW (a : Int) : cmpV .In (.int a) (.seq 62) hp = some (wl.contains a) := rfl
theorem a_niW (a : Int) : cmpV .NotIn (.int a) (.seq 62) hp = some (!wl.contains a) := rfl
theorem a_niD (a : Int) : cmpV .NotIn (.int a) (.seq 63) hp = some (!dl.contains a) := rfl
theorem a_inG (a : Int) : cmpV .In (.int a) (.seq 304) hp = some (gl.contains a) := rfl
theorem a_newL (vs : List V) : newO .list vs hp = if vs.length ≤ 1000000 then some (.ref hp.length, hp ++ [.list vs]) else none := rfl
theorem a_newT (vs : List V) : newO .tuple vs hp = if vs.length ≤ 1000000 then some (.ref hp.length, hp ++ [.tuple vs]) else none := rfl
theorem nT2 (a b : V) (hp : Hp) : newO .tuple [a, b] hp = some (.ref hp.length, hp ++ [.tuple [a, b]]) := if_pos (by simp)
theorem nT3 (a b c : V) (hp : Hp) : newO .tuple [a, b, c] hp = some (.ref hp.length, hp ++ [.tuple [a, b, c]]) := if_pos (by simp)
theorem nL0 (hp : Hp) : newO .list [] hp = some (.ref hp.length, hp ++ [.list []]) := if_pos (by simp)
theorem nL1 (a : V) (hp : Hp) : newO .list [a] hp = some (.ref hp.length, hp ++ [.list [a]]) := if_pos (by simp)
theorem a_append {C : Orc} {i : Nat} {v : V} {xs : List V} (h : hp[i]? = some (.list xs)) (hl : xs.length ≤ 1000000) : methC C .append (.ref i) [v] hp = some (.none, hp.set i (.list (xs ++ [v]))) := by
  unfold methC appV
  dsimp only
  rw [h]
  dsimp only
  rw [if_pos hl]
theorem a_extend {C : Orc} {i j : Nat} {xs ys : List V} (h : hp[i]? = some (.list xs)) (h2 : hp[j]? = some (.list ys)) (hl : xs.length ≤ 1000000) (hl2 : ys.length ≤ 1000000) : methC C .extend (.ref i) [.ref j] hp = some (.none, hp.set i (.list (xs ++ ys))) := by
  unfold methC extV
  dsimp only
  rw [h, h2]
  dsimp only
  rw [if_pos ⟨hl, hl2⟩]
theorem a_lenB (b : List UInt8) (h : b.length ≤ 1000000) : callB .len [.bytes b] hp = some (.int b.length, hp) := by
  unfold callB lenB
  dsimp only
  rw [if_pos h]
theorem a_lenL {i : Nat} {xs : List V} (h : hp[i]? = some (.list xs)) (hl : xs.length ≤ 1000000) : callB .len [.ref i] hp = some (.int xs.length, hp) := by
  unfold callB lenB
  dsimp only
  rw [h]
  dsimp only
  rw [if_pos hl]
end
theorem a_tuple2 (a x y : Int) {i : Nat} {hp : Hp} (h : hp[i]? = some (.tuple [.int x, .int y])) : cmpV .NotIn (.int a) (.ref i) hp = some (!(a == x || a == y)) := by
  unfold cmpV niV
  dsimp only
  rw [h]
noncomputable def isW (x : UInt8) : Bool := wl.contains (x.toNat : Int)
noncomputable def isD (x : UInt8) : Bool := dl.contains (x.toNat : Int)
noncomputable def isR (x : UInt8) : Bool := !isW x && !isD x
theorem a_isW (x : UInt8) : wl.contains (x.toNat : Int) = isW x := rfl
theorem a_isD (x : UInt8) : dl.contains (x.toNat : Int) = isD x := rfl
end Mine

open PySem PySem.W PyProof.Rows PySem.Calls
set_option Elab.async false
set_option maxRecDepth 100000
set_option maxHeartbeats 1000000
set_option linter.all false
namespace Mine
section
variable {n : Nat} {sc : Addr × List Int} {k : Nat} {hp : Hp} {c : Nat} {d w : List UInt8} {a e : Nat} {x : UInt8}
theorem nonneg (x : Nat) : ((x : Int) ≥ 0) = True := by simp
theorem nn (x : Nat) : ((0 : Int) ≤ (x : Int)) = True := by simp
theorem sp_70 (x : UInt8) : orc n sc (k + 1) 70 [.int (x.toNat : Int)] hp = some (.bool (isW x), hp) := by
  rw [orc_def rfl rfl rfl (den_70 ..)]
  simp only [body_70, a_sAll0, a_sExpr, a_sAsg, a_sIf, a_sRet, a_sCont, a_sOne, a_eV, a_eLoc, a_e1, a_e2, a_eAll0, a_eAll1, a_eS, a_e1S, a_eIf, a_eTr, a_eAnd1, a_eAnd2, a_tNot, a_tAnd0, a_tAnd1, a_tOr0, a_tOr1, a_tOf, a_tCmp2, a_tCmp3, a_eMeth, a_eO0, a_eO1, a_eCut, a_callF, a_callB, a_methF, ls1, ls2, ls3, ls4, a_bind, S_inj, String.reduceEq, reduceIte, a_fin1, a_fin2, a_fin3, Bool.not_true, Bool.not_false, a_trB, a_lt, a_le, a_gt, a_ge, a_eq, a_ne, a_add, a_sub, a_neg, a_mod, a_inW, a_niW, a_niD, decide_true, decide_false, nT2, nT3, nL0, nL1, a_eqB, a_eqS, a_neS, a_isW]
theorem sp_77 (x : UInt8) : orc n sc (k + 1) 77 [.int (x.toNat : Int)] hp = some (.bool (isR x), hp) := by
  rw [orc_def rfl rfl rfl (den_77 ..)]
  simp only [body_77, a_sAll0, a_sExpr, a_sAsg, a_sIf, a_sRet, a_sCont, a_sOne, a_eV, a_eLoc, a_e1, a_e2, a_eAll0, a_eAll1, a_eS, a_e1S, a_eIf, a_eTr, a_eAnd1, a_eAnd2, a_tNot, a_tAnd0, a_tAnd1, a_tOr0, a_tOr1, a_tOf, a_tCmp2, a_tCmp3, a_eMeth, a_eO0, a_eO1, a_eCut, a_callF, a_callB, a_methF, ls1, ls2, ls3, ls4, a_bind, S_inj, String.reduceEq, reduceIte, a_fin1, a_fin2, a_fin3, Bool.not_true, Bool.not_false, a_trB, a_lt, a_le, a_gt, a_ge, a_eq, a_ne, a_add, a_sub, a_neg, a_mod, a_inW, a_niW, a_niD, decide_true, decide_false, nT2, nT3, nL0, nL1, a_eqB, a_eqS, a_neS, a_isW, a_isD, nn]
  unfold isR
  cases isW x <;> cases isD x <;> rfl
theorem sp_106 (h : hp[c]? = some (cur d a e)) : orc n sc (k + 1) 106 [.ref c] hp = some (.bool (decide ((e : Int) ≤ (a : Int))), hp) := by
  rw [orc_def rfl rfl rfl (den_106 ..)]
  simp only [body_106, a_sAll0, a_sExpr, a_sAsg, a_sIf, a_sRet, a_sCont, a_sOne, a_eV, a_eLoc, a_e1, a_e2, a_eAll0, a_eAll1, a_eS, a_e1S, a_eIf, a_eTr, a_eAnd1, a_eAnd2, a_tNot, a_tAnd0, a_tAnd1, a_tOr0, a_tOr1, a_tOf, a_tCmp2, a_tCmp3, a_eMeth, a_eO0, a_eO1, a_eCut, a_callF, a_callB, a_methF, ls1, ls2, ls3, ls4, a_bind, S_inj, String.reduceEq, reduceIte, a_fin1, a_fin2, a_fin3, Bool.not_true, Bool.not_false, a_trB, a_lt, a_le, a_gt, a_ge, a_eq, a_ne, a_add, a_sub, a_neg, a_mod, a_inW, a_niW, a_niD, decide_true, decide_false, nT2, nT3, nL0, nL1, a_eqB, a_eqS, a_neS, at_at h, at_end h]
theorem sp_106f (h : hp[c]? = some (cur d a e)) (W : Win d a e (x :: w)) : orc n sc (k + 1) 106 [.ref c] hp = some (.bool false, hp) := by
  rw [sp_106 h, decide_eq_false (by have := W.lt; omega)]
theorem sp_106t (h : hp[c]? = some (cur d a e)) (W : Win d a e []) : orc n sc (k + 1) 106 [.ref c] hp = some (.bool true, hp) := by
  rw [sp_106 h, decide_eq_true (by have := W.nil; omega)]
theorem sp_114 (h : hp[c]? = some (cur d a e)) (W : Win d a e (x :: w)) : orc n sc (k + 1) 114 [.ref c] hp = some (.int (x.toNat : Int), hp) := by
  rw [orc_def rfl rfl rfl (den_114 ..)]
  have lt : ((a : Int) < (e : Int)) := by have := W.lt; omega
  simp only [body_114, a_sAll0, a_sExpr, a_sAsg, a_sIf, a_sRet, a_sCont, a_sOne, a_eV, a_eLoc, a_e1, a_e2, a_eAll0, a_eAll1, a_eS, a_e1S, a_eIf, a_eTr, a_eAnd1, a_eAnd2, a_tNot, a_tAnd0, a_tAnd1, a_tOr0, a_tOr1, a_tOf, a_tCmp2, a_tCmp3, a_eMeth, a_eO0, a_eO1, a_eCut, a_callF, a_callB, a_methF, ls1, ls2, ls3, ls4, a_bind, S_inj, String.reduceEq, reduceIte, a_fin1, a_fin2, a_fin3, Bool.not_true, Bool.not_false, a_trB, a_lt, a_le, a_gt, a_ge, a_eq, a_ne, a_add, a_sub, a_neg, a_mod, a_inW, a_niW, a_niD, decide_true, decide_false, nT2, nT3, nL0, nL1, a_eqB, a_eqS, a_neS, at_at h, at_end h, at_data h, Int.add_zero, lt, W.idx hp]
theorem sp_114n (h : hp[c]? = some (cur d a e)) (W : Win d a e []) : orc n sc (k + 1) 114 [.ref c] hp = some (.int (-1), hp) := by
  rw [orc_def rfl rfl rfl (den_114 ..)]
  have lt : ¬ ((a : Int) < (e : Int)) := by have := W.nil; omega
  simp only [body_114, a_sAll0, a_sExpr, a_sAsg, a_sIf, a_sRet, a_sCont, a_sOne, a_eV, a_eLoc, a_e1, a_e2, a_eAll0, a_eAll1, a_eS, a_e1S, a_eIf, a_eTr, a_eAnd1, a_eAnd2, a_tNot, a_tAnd0, a_tAnd1, a_tOr0, a_tOr1, a_tOf, a_tCmp2, a_tCmp3, a_eMeth, a_eO0, a_eO1, a_eCut, a_callF, a_callB, a_methF, ls1, ls2, ls3, ls4, a_bind, S_inj, String.reduceEq, reduceIte, a_fin1, a_fin2, a_fin3, Bool.not_true, Bool.not_false, a_trB, a_lt, a_le, a_gt, a_ge, a_eq, a_ne, a_add, a_sub, a_neg, a_mod, a_inW, a_niW, a_niD, decide_true, decide_false, nT2, nT3, nL0, nL1, a_eqB, a_eqS, a_neS, at_at h, at_end h, at_data h, Int.add_zero, lt]
/-- a step of the cursor within a body -/
theorem step_at {o : Ev} {ls : Ls} {i : Int} (h : hp[c]? = some (cur d a e)) (ho : o ls hp = some (.ref c, hp)) {t : Ev} (ht : t ls hp = some (.int i, hp)) (es : List Ex) :
    sAll (sAttr o (S "at") (e2 (binV .Add) (e1 (attrV (S "at")) o) t) :: es) ls hp = sAll es ls (hp.set c (cur d ((a : Int) + i) e)) :=
  a_sOne _ _ _ _ _ _ (put_at h (h0 := hp) (h1 := hp) (x := (a : Int) + i) (by simp only [a_sAll0, a_sExpr, a_sAsg, a_sIf, a_sRet, a_sCont, a_sOne, a_eV, a_eLoc, a_e1, a_e2, a_eAll0, a_eAll1, a_eS, a_e1S, a_eIf, a_eTr, a_eAnd1, a_eAnd2, a_tNot, a_tAnd0, a_tAnd1, a_tOr0, a_tOr1, a_tOf, a_tCmp2, a_tCmp3, a_eMeth, a_eO0, a_eO1, a_eCut, a_callF, a_callB, a_methF, ls1, ls2, ls3, ls4, a_bind, S_inj, String.reduceEq, reduceIte, a_fin1, a_fin2, a_fin3, Bool.not_true, Bool.not_false, a_trB, a_lt, a_le, a_gt, a_ge, a_eq, a_ne, a_add, a_sub, a_neg, a_mod, a_inW, a_niW, a_niD, decide_true, decide_false, nT2, nT3, nL0, nL1, a_eqB, a_eqS, a_neS, ho, at_at h, ht]) ho)
theorem sp_121 (h : hp[c]? = some (cur d a e)) (W : Win d a e (x :: w)) : orc n sc (k + 1) 121 [.ref c] hp = some (.int (x.toNat : Int), hp.set c (cur d ((a + 1 : Nat) : Int) e)) := by
  rw [orc_def rfl rfl rfl (den_121 ..)]
  have lt : ¬ ((e : Int) ≤ (a : Int)) := by have := W.lt; omega
  simp only [body_121, a_sAll0, a_sExpr, a_sAsg, a_sIf, a_sRet, a_sCont, a_sOne, a_eV, a_eLoc, a_e1, a_e2, a_eAll0, a_eAll1, a_eS, a_e1S, a_eIf, a_eTr, a_eAnd1, a_eAnd2, a_tNot, a_tAnd0, a_tAnd1, a_tOr0, a_tOr1, a_tOf, a_tCmp2, a_tCmp3, a_eMeth, a_eO0, a_eO1, a_eCut, a_callF, a_callB, a_methF, ls1, ls2, ls3, ls4, a_bind, S_inj, String.reduceEq, reduceIte, a_fin1, a_fin2, a_fin3, Bool.not_true, Bool.not_false, a_trB, a_lt, a_le, a_gt, a_ge, a_eq, a_ne, a_add, a_sub, a_neg, a_mod, a_inW, a_niW, a_niD, decide_true, decide_false, nT2, nT3, nL0, nL1, a_eqB, a_eqS, a_neS, at_at h, at_end h, at_data h, Int.add_zero, lt, W.idx hp, a_then0]
  rw [step_at h (by simp only [a_sAll0, a_sExpr, a_sAsg, a_sIf, a_sRet, a_sCont, a_sOne, a_eV, a_eLoc, a_e1, a_e2, a_eAll0, a_eAll1, a_eS, a_e1S, a_eIf, a_eTr, a_eAnd1, a_eAnd2, a_tNot, a_tAnd0, a_tAnd1, a_tOr0, a_tOr1, a_tOf, a_tCmp2, a_tCmp3, a_eMeth, a_eO0, a_eO1, a_eCut, a_callF, a_callB, a_methF, ls1, ls2, ls3, ls4, a_bind, S_inj, String.reduceEq, reduceIte, a_fin1, a_fin2, a_fin3, Bool.not_true, Bool.not_false, a_trB, a_lt, a_le, a_gt, a_ge, a_eq, a_ne, a_add, a_sub, a_neg, a_mod, a_inW, a_niW, a_niD, decide_true, decide_false, nT2, nT3, nL0, nL1, a_eqB, a_eqS, a_neS]) (by simp only [a_sAll0, a_sExpr, a_sAsg, a_sIf, a_sRet, a_sCont, a_sOne, a_eV, a_eLoc, a_e1, a_e2, a_eAll0, a_eAll1, a_eS, a_e1S, a_eIf, a_eTr, a_eAnd1, a_eAnd2, a_tNot, a_tAnd0, a_tAnd1, a_tOr0, a_tOr1, a_tOf, a_tCmp2, a_tCmp3, a_eMeth, a_eO0, a_eO1, a_eCut, a_callF, a_callB, a_methF, ls1, ls2, ls3, ls4, a_bind, S_inj, String.reduceEq, reduceIte, a_fin1, a_fin2, a_fin3, Bool.not_true, Bool.not_false, a_trB, a_lt, a_le, a_gt, a_ge, a_eq, a_ne, a_add, a_sub, a_neg, a_mod, a_inW, a_niW, a_niD, decide_true, decide_false, nT2, nT3, nL0, nL1, a_eqB, a_eqS, a_neS]; rfl)]
  simp only [a_sAll0, a_sExpr, a_sAsg, a_sIf, a_sRet, a_sCont, a_sOne, a_eV, a_eLoc, a_e1, a_e2, a_eAll0, a_eAll1, a_eS, a_e1S, a_eIf, a_eTr, a_eAnd1, a_eAnd2, a_tNot, a_tAnd0, a_tAnd1, a_tOr0, a_tOr1, a_tOf, a_tCmp2, a_tCmp3, a_eMeth, a_eO0, a_eO1, a_eCut, a_callF, a_callB, a_methF, ls1, ls2, ls3, ls4, a_bind, S_inj, String.reduceEq, reduceIte, a_fin1, a_fin2, a_fin3, Bool.not_true, Bool.not_false, a_trB, a_lt, a_le, a_gt, a_ge, a_eq, a_ne, a_add, a_sub, a_neg, a_mod, a_inW, a_niW, a_niD, decide_true, decide_false, nT2, nT3, nL0, nL1, a_eqB, a_eqS, a_neS]
  rfl
theorem sp_156f (h : hp[c]? = some (cur d a e)) (W : Win d a e (x :: w)) (h1 : x ≠ 10) (h2 : x ≠ 13) : orc n sc (k + 2) 156 [.ref c] hp = some (.bool false, hp) := by
  rw [orc_def rfl rfl rfl (den_156 ..)]
  have e1 : ¬ ((x.toNat : Int) = 10) := fun q => h1 (UInt8.toNat_inj.mp (by show x.toNat = 10; omega))
  have e2 : ¬ ((x.toNat : Int) = 13) := fun q => h2 (UInt8.toNat_inj.mp (by show x.toNat = 13; omega))
  simp only [body_156, a_sIf, a_sAll0, a_sExpr, a_sAsg, a_sIf, a_sRet, a_sCont, a_sOne, a_eV, a_eLoc, a_e1, a_e2, a_eAll0, a_eAll1, a_eS, a_e1S, a_eIf, a_eTr, a_eAnd1, a_eAnd2, a_tNot, a_tAnd0, a_tAnd1, a_tOr0, a_tOr1, a_tOf, a_tCmp2, a_tCmp3, a_eMeth, a_eO0, a_eO1, a_eCut, a_callF, a_callB, a_methF, ls1, ls2, ls3, ls4, a_bind, S_inj, String.reduceEq, reduceIte, a_fin1, a_fin2, a_fin3, Bool.not_true, Bool.not_false, a_trB, a_lt, a_le, a_gt, a_ge, a_eq, a_ne, a_add, a_sub, a_neg, a_mod, a_inW, a_niW, a_niD, decide_true, decide_false, nT2, nT3, nL0, nL1, a_eqB, a_eqS, a_neS, me_peek h, sp_114 h W, e1, e2, a_then0]
theorem sp_156t (h : hp[c]? = some (cur d a e)) (W : Win d a e (10 :: w)) : orc n sc (k + 2) 156 [.ref c] hp = some (.bool true, hp.set c (cur d ((a + 1 : Nat) : Int) e)) := by
  rw [orc_def rfl rfl rfl (den_156 ..)]
  simp only [body_156, a_sIf, a_sAll0, a_sExpr, a_sAsg, a_sIf, a_sRet, a_sCont, a_sOne, a_eV, a_eLoc, a_e1, a_e2, a_eAll0, a_eAll1, a_eS, a_e1S, a_eIf, a_eTr, a_eAnd1, a_eAnd2, a_tNot, a_tAnd0, a_tAnd1, a_tOr0, a_tOr1, a_tOf, a_tCmp2, a_tCmp3, a_eMeth, a_eO0, a_eO1, a_eCut, a_callF, a_callB, a_methF, ls1, ls2, ls3, ls4, a_bind, S_inj, String.reduceEq, reduceIte, a_fin1, a_fin2, a_fin3, Bool.not_true, Bool.not_false, a_trB, a_lt, a_le, a_gt, a_ge, a_eq, a_ne, a_add, a_sub, a_neg, a_mod, a_inW, a_niW, a_niD, decide_true, decide_false, nT2, nT3, nL0, nL1, a_eqB, a_eqS, a_neS, me_peek h, sp_114 h W, a_then0, UInt8.reduceToNat, Int.reduceEq, Int.cast_ofNat_Int]
  rw [step_at h (i := 1) (by simp only [a_sAll0, a_sExpr, a_sAsg, a_sIf, a_sRet, a_sCont, a_sOne, a_eV, a_eLoc, a_e1, a_e2, a_eAll0, a_eAll1, a_eS, a_e1S, a_eIf, a_eTr, a_eAnd1, a_eAnd2, a_tNot, a_tAnd0, a_tAnd1, a_tOr0, a_tOr1, a_tOf, a_tCmp2, a_tCmp3, a_eMeth, a_eO0, a_eO1, a_eCut, a_callF, a_callB, a_methF, ls1, ls2, ls3, ls4, a_bind, S_inj, String.reduceEq, reduceIte, a_fin1, a_fin2, a_fin3, Bool.not_true, Bool.not_false, a_trB, a_lt, a_le, a_gt, a_ge, a_eq, a_ne, a_add, a_sub, a_neg, a_mod, a_inW, a_niW, a_niD, decide_true, decide_false, nT2, nT3, nL0, nL1, a_eqB, a_eqS, a_neS]) (by simp only [a_sAll0, a_sExpr, a_sAsg, a_sIf, a_sRet, a_sCont, a_sOne, a_eV, a_eLoc, a_e1, a_e2, a_eAll0, a_eAll1, a_eS, a_e1S, a_eIf, a_eTr, a_eAnd1, a_eAnd2, a_tNot, a_tAnd0, a_tAnd1, a_tOr0, a_tOr1, a_tOf, a_tCmp2, a_tCmp3, a_eMeth, a_eO0, a_eO1, a_eCut, a_callF, a_callB, a_methF, ls1, ls2, ls3, ls4, a_bind, S_inj, String.reduceEq, reduceIte, a_fin1, a_fin2, a_fin3, Bool.not_true, Bool.not_false, a_trB, a_lt, a_le, a_gt, a_ge, a_eq, a_ne, a_add, a_sub, a_neg, a_mod, a_inW, a_niW, a_niD, decide_true, decide_false, nT2, nT3, nL0, nL1, a_eqB, a_eqS, a_neS])]
  simp only [a_sAll0, a_sExpr, a_sAsg, a_sIf, a_sRet, a_sCont, a_sOne, a_eV, a_eLoc, a_e1, a_e2, a_eAll0, a_eAll1, a_eS, a_e1S, a_eIf, a_eTr, a_eAnd1, a_eAnd2, a_tNot, a_tAnd0, a_tAnd1, a_tOr0, a_tOr1, a_tOf, a_tCmp2, a_tCmp3, a_eMeth, a_eO0, a_eO1, a_eCut, a_callF, a_callB, a_methF, ls1, ls2, ls3, ls4, a_bind, S_inj, String.reduceEq, reduceIte, a_fin1, a_fin2, a_fin3, Bool.not_true, Bool.not_false, a_trB, a_lt, a_le, a_gt, a_ge, a_eq, a_ne, a_add, a_sub, a_neg, a_mod, a_inW, a_niW, a_niD, decide_true, decide_false, nT2, nT3, nL0, nL1, a_eqB, a_eqS, a_neS, a_then1]
  rfl
/-- the bytes of a word at the cursor -/
theorem cutB (sc : Addr × List Int) (hp : Hp) (b : List UInt8) (x y : Option V) : cutV sc (.bytes b) x y hp = match lowOf x, hiOf b.length y with
      | some l, some u => if b.length ≤ 1000000 then some (.bytes ((b.take u).drop l), hp) else none
      | _, _ => none := by
  cases x <;> rfl
theorem lowOf_at {i : Nat} (h : i < 1000000) : lowOf (some (.int (i : Int))) = some i := by
  show (if 0 ≤ (i : Int) ∧ (i : Int) < 1000000 then some (i : Int).toNat else none) = _
  rw [if_pos (by omega), Int.toNat_natCast]
theorem hiOf_at {i m : Nat} (h : i < 1000000) : hiOf m (some (.int (i : Int))) = some i := by
  show (if 0 ≤ (i : Int) ∧ (i : Int) < 1000000 then some (i : Int).toNat else none) = _
  rw [if_pos (by omega), Int.toNat_natCast]
theorem cutB_at (sc : Addr × List Int) (hp : Hp) (d : List UInt8) {i j : Nat} (h : d.length ≤ 10000) (hi : i ≤ d.length) (hj : j ≤ d.length) : cutV sc (.bytes d) (some (.int (i : Int))) (some (.int (j : Int))) hp = some (.bytes ((d.take j).drop i), hp) := by
  rw [cutB, lowOf_at (by omega), hiOf_at (by omega)]
  dsimp only
  rw [if_pos (by omega)]
theorem sp_128 (h : hp[c]? = some (cur d a e)) (W : Win d a e w) (y z : UInt8) : orc n sc (k + 1) 128 [.ref c, .bytes [y, z]] hp = some (.bool (w.take 2 == [y, z]), hp) := by
  rw [orc_def rfl rfl rfl (den_128 ..)]
  have l1 := W.le
  have l2 := W.lim
  have l3 := W.len
  have l4 := a_lenB hp [y, z] (by simp)
  rw [show (([y, z] : List UInt8).length : Int) = 2 from rfl] at l4
  by_cases q : ((a : Int) + 2 ≤ (e : Int))
  · have hc := cutB_at sc hp d (i := a) (j := a + 2) (by omega) (by omega) (by omega)
    rw [Int.natCast_add, Int.cast_ofNat_Int] at hc
    rw [show (d.take (a + 2)).drop a = w.take 2 by rw [← W.eq, List.take_drop, List.take_take, Nat.min_eq_left (by omega)]] at hc
    simp only [body_128, a_sAll0, a_sExpr, a_sAsg, a_sIf, a_sRet, a_sCont, a_sOne, a_eV, a_eLoc, a_e1, a_e2, a_eAll0, a_eAll1, a_eS, a_e1S, a_eIf, a_eTr, a_eAnd1, a_eAnd2, a_tNot, a_tAnd0, a_tAnd1, a_tOr0, a_tOr1, a_tOf, a_tCmp2, a_tCmp3, a_eMeth, a_eO0, a_eO1, a_eCut, a_callF, a_callB, a_methF, ls1, ls2, ls3, ls4, a_bind, S_inj, String.reduceEq, reduceIte, a_fin1, a_fin2, a_fin3, Bool.not_true, Bool.not_false, a_trB, a_lt, a_le, a_gt, a_ge, a_eq, a_ne, a_add, a_sub, a_neg, a_mod, a_inW, a_niW, a_niD, decide_true, decide_false, nT2, nT3, nL0, nL1, a_eqB, a_eqS, a_neS, at_at h, at_end h, at_data h, l4, q, hc, a_eqB]
  · simp only [body_128, a_sAll0, a_sExpr, a_sAsg, a_sIf, a_sRet, a_sCont, a_sOne, a_eV, a_eLoc, a_e1, a_e2, a_eAll0, a_eAll1, a_eS, a_e1S, a_eIf, a_eTr, a_eAnd1, a_eAnd2, a_tNot, a_tAnd0, a_tAnd1, a_tOr0, a_tOr1, a_tOf, a_tCmp2, a_tCmp3, a_eMeth, a_eO0, a_eO1, a_eCut, a_callF, a_callB, a_methF, ls1, ls2, ls3, ls4, a_bind, S_inj, String.reduceEq, reduceIte, a_fin1, a_fin2, a_fin3, Bool.not_true, Bool.not_false, a_trB, a_lt, a_le, a_gt, a_ge, a_eq, a_ne, a_add, a_sub, a_neg, a_mod, a_inW, a_niW, a_niD, decide_true, decide_false, nT2, nT3, nL0, nL1, a_eqB, a_eqS, a_neS, at_at h, at_end h, at_data h, l4, q]
    have hf : (w.take 2 == [y, z]) = false := by
      rw [beq_eq_false_iff_ne]
      intro hh
      have := congrArg List.length hh
      simp only [List.length_take, List.length_cons, List.length_nil] at this
      omega
    rw [hf]
theorem sp_135f (h : hp[c]? = some (cur d a e)) (W : Win d a e w) {y z : UInt8} (q : w.take 2 ≠ [y, z]) : orc n sc (k + 2) 135 [.ref c, .bytes [y, z]] hp = some (.bool false, hp) := by
  rw [orc_def rfl rfl rfl (den_135 ..)]
  simp only [body_135, a_sIf, a_sAll0, a_sExpr, a_sAsg, a_sIf, a_sRet, a_sCont, a_sOne, a_eV, a_eLoc, a_e1, a_e2, a_eAll0, a_eAll1, a_eS, a_e1S, a_eIf, a_eTr, a_eAnd1, a_eAnd2, a_tNot, a_tAnd0, a_tAnd1, a_tOr0, a_tOr1, a_tOf, a_tCmp2, a_tCmp3, a_eMeth, a_eO0, a_eO1, a_eCut, a_callF, a_callB, a_methF, ls1, ls2, ls3, ls4, a_bind, S_inj, String.reduceEq, reduceIte, a_fin1, a_fin2, a_fin3, Bool.not_true, Bool.not_false, a_trB, a_lt, a_le, a_gt, a_ge, a_eq, a_ne, a_add, a_sub, a_neg, a_mod, a_inW, a_niW, a_niD, decide_true, decide_false, nT2, nT3, nL0, nL1, a_eqB, a_eqS, a_neS, me_starts h, sp_128 h W, beq_eq_false_iff_ne.mpr q, a_then1]
theorem sp_135t (h : hp[c]? = some (cur d a e)) {y z : UInt8} (W : Win d a e (y :: z :: w)) : orc n sc (k + 2) 135 [.ref c, .bytes [y, z]] hp = some (.bool true, hp.set c (cur d ((a + 2 : Nat) : Int) e)) := by
  rw [orc_def rfl rfl rfl (den_135 ..)]
  have q : ((y :: z :: w).take 2 == [y, z]) = true := by rw [beq_iff_eq]; rfl
  simp only [body_135, a_sIf, a_sAll0, a_sExpr, a_sAsg, a_sIf, a_sRet, a_sCont, a_sOne, a_eV, a_eLoc, a_e1, a_e2, a_eAll0, a_eAll1, a_eS, a_e1S, a_eIf, a_eTr, a_eAnd1, a_eAnd2, a_tNot, a_tAnd0, a_tAnd1, a_tOr0, a_tOr1, a_tOf, a_tCmp2, a_tCmp3, a_eMeth, a_eO0, a_eO1, a_eCut, a_callF, a_callB, a_methF, ls1, ls2, ls3, ls4, a_bind, S_inj, String.reduceEq, reduceIte, a_fin1, a_fin2, a_fin3, Bool.not_true, Bool.not_false, a_trB, a_lt, a_le, a_gt, a_ge, a_eq, a_ne, a_add, a_sub, a_neg, a_mod, a_inW, a_niW, a_niD, decide_true, decide_false, nT2, nT3, nL0, nL1, a_eqB, a_eqS, a_neS, me_starts h, sp_128 h W, q, a_then0]
  rw [step_at h (i := 2) (by simp only [a_sAll0, a_sExpr, a_sAsg, a_sIf, a_sRet, a_sCont, a_sOne, a_eV, a_eLoc, a_e1, a_e2, a_eAll0, a_eAll1, a_eS, a_e1S, a_eIf, a_eTr, a_eAnd1, a_eAnd2, a_tNot, a_tAnd0, a_tAnd1, a_tOr0, a_tOr1, a_tOf, a_tCmp2, a_tCmp3, a_eMeth, a_eO0, a_eO1, a_eCut, a_callF, a_callB, a_methF, ls1, ls2, ls3, ls4, a_bind, S_inj, String.reduceEq, reduceIte, a_fin1, a_fin2, a_fin3, Bool.not_true, Bool.not_false, a_trB, a_lt, a_le, a_gt, a_ge, a_eq, a_ne, a_add, a_sub, a_neg, a_mod, a_inW, a_niW, a_niD, decide_true, decide_false, nT2, nT3, nL0, nL1, a_eqB, a_eqS, a_neS]) (by simp only [a_sAll0, a_sExpr, a_sAsg, a_sIf, a_sRet, a_sCont, a_sOne, a_eV, a_eLoc, a_e1, a_e2, a_eAll0, a_eAll1, a_eS, a_e1S, a_eIf, a_eTr, a_eAnd1, a_eAnd2, a_tNot, a_tAnd0, a_tAnd1, a_tOr0, a_tOr1, a_tOf, a_tCmp2, a_tCmp3, a_eMeth, a_eO0, a_eO1, a_eCut, a_callF, a_callB, a_methF, ls1, ls2, ls3, ls4, a_bind, S_inj, String.reduceEq, reduceIte, a_fin1, a_fin2, a_fin3, Bool.not_true, Bool.not_false, a_trB, a_lt, a_le, a_gt, a_ge, a_eq, a_ne, a_add, a_sub, a_neg, a_mod, a_inW, a_niW, a_niD, decide_true, decide_false, nT2, nT3, nL0, nL1, a_eqB, a_eqS, a_neS, a_lenB hp [y, z] (by simp)]; rfl)]
  simp only [a_sAll0, a_sExpr, a_sAsg, a_sIf, a_sRet, a_sCont, a_sOne, a_eV, a_eLoc, a_e1, a_e2, a_eAll0, a_eAll1, a_eS, a_e1S, a_eIf, a_eTr, a_eAnd1, a_eAnd2, a_tNot, a_tAnd0, a_tAnd1, a_tOr0, a_tOr1, a_tOf, a_tCmp2, a_tCmp3, a_eMeth, a_eO0, a_eO1, a_eCut, a_callF, a_callB, a_methF, ls1, ls2, ls3, ls4, a_bind, S_inj, String.reduceEq, reduceIte, a_fin1, a_fin2, a_fin3, Bool.not_true, Bool.not_false, a_trB, a_lt, a_le, a_gt, a_ge, a_eq, a_ne, a_add, a_sub, a_neg, a_mod, a_inW, a_niW, a_niD, decide_true, decide_false, nT2, nT3, nL0, nL1, a_eqB, a_eqS, a_neS]
  rfl
end
section
variable {n : Nat} {sc : Addr × List Int} {k : Nat} {c : Nat} {d : List UInt8} {e : Nat}
end
end Mine

open PySem PySem.W PyProof.Rows PySem.Calls
set_option Elab.async false
set_option maxRecDepth 100000
set_option maxHeartbeats 1000000
set_option linter.all false
namespace Mine
theorem w_step {t : Tr} {b : Ex} {n : Nat} {ls l2 : Ls} {hp h1 h2 : Hp} (h : t ls hp = some (true, h1)) (g : b ls h1 = some (.next, l2, h2)) : sWhile t b (n + 1) ls hp = sWhile t b n l2 h2 := by
  rw [sWhile]
  dsimp only
  rw [h]
  dsimp only
  rw [g]
theorem w_cont {t : Tr} {b : Ex} {n : Nat} {ls l2 : Ls} {hp h1 h2 : Hp} (h : t ls hp = some (true, h1)) (g : b ls h1 = some (.cont, l2, h2)) : sWhile t b (n + 1) ls hp = sWhile t b n l2 h2 := by
  rw [sWhile]
  dsimp only
  rw [h]
  dsimp only
  rw [g]
theorem w_ret {t : Tr} {b : Ex} {n : Nat} {ls l2 : Ls} {hp h1 h2 : Hp} {v : V} (h : t ls hp = some (true, h1)) (g : b ls h1 = some (.ret v, l2, h2)) : sWhile t b (n + 1) ls hp = some (.ret v, l2, h2) := by
  rw [sWhile]
  dsimp only
  rw [h]
  dsimp only
  rw [g]
theorem w_stop {t : Tr} {b : Ex} {n : Nat} {ls : Ls} {hp h1 : Hp} (h : t ls hp = some (false, h1)) : sWhile t b (n + 1) ls hp = some (.next, ls, h1) := by
  rw [sWhile]
  dsimp only
  rw [h]
/-- the next byte, if any, is not regular -/
def HN (w : List UInt8) : Prop := ∀ x w', w = x :: w' → isR x = false
section
variable {n : Nat} {sc : Addr × List Int} {k : Nat} {c : Nat} {d : List UInt8} {e : Nat}
theorem loop_149 : ∀ (y w : List UInt8) (a m : Nat) (ls : Ls) (hp : Hp), y.length < m → y.all isR = true → HN w → Win d a e (y ++ w) → hp[c]? = some (cur d a e) → ls (S "self") = some (.ref c) →
    ∃ hp', sWhile (tAnd [(tCmp2 (cmpV .Lt) (e1 (attrV (S "at")) (eLoc (S "self"))) (e1 (attrV (S "end")) (eLoc (S "self")))), (tOf (e1S (callV (orc n sc (k + 1))) (eV (.fn 77)) [(e2 idxV (e1 (attrV (S "data")) (eLoc (S "self"))) (e1 (attrV (S "at")) (eLoc (S "self"))))]) trV)]) (sAll [(sAttr (eLoc (S "self")) (S "at") (e2 (binV .Add) (e1 (attrV (S "at")) (eLoc (S "self"))) (eV (.int 1))))]) m ls hp = some (.next, ls, hp') ∧ St c (cur d ((a + y.length : Nat) : Int) e) hp hp' := by
  intro y
  induction y with
  | nil =>
    intro w a m ls hp hm _ hn W h hs
    obtain ⟨m, rfl⟩ : ∃ m', m = m' + 1 := ⟨m - 1, by simp at hm; omega⟩
    refine ⟨hp, w_stop ?_, St.refl h⟩
    cases w with
    | nil =>
      have lt : ¬ ((a : Int) < (e : Int)) := by have := Win.nil W; omega
      simp only [a_sAll0, a_sExpr, a_sAsg, a_sIf, a_sRet, a_sCont, a_sOne, a_eV, a_eLoc, a_e1, a_e2, a_eAll0, a_eAll1, a_eS, a_e1S, a_eIf, a_eTr, a_eAnd1, a_eAnd2, a_tNot, a_tAnd0, a_tAnd1, a_tOr0, a_tOr1, a_tOf, a_tCmp2, a_tCmp3, a_eMeth, a_eO0, a_eO1, a_eCut, a_callF, a_callB, a_methF, ls1, ls2, ls3, ls4, a_bind, S_inj, String.reduceEq, reduceIte, a_fin1, a_fin2, a_fin3, Bool.not_true, Bool.not_false, a_trB, a_lt, a_le, a_gt, a_ge, a_eq, a_ne, a_add, a_sub, a_neg, a_mod, a_inW, a_niW, a_niD, decide_true, decide_false, nT2, nT3, nL0, nL1, a_eqB, a_eqS, a_neS, hs, at_at h, at_end h, lt]
    | cons x w =>
      have lt : ((a : Int) < (e : Int)) := by have := Win.lt W; omega
      simp only [a_sAll0, a_sExpr, a_sAsg, a_sIf, a_sRet, a_sCont, a_sOne, a_eV, a_eLoc, a_e1, a_e2, a_eAll0, a_eAll1, a_eS, a_e1S, a_eIf, a_eTr, a_eAnd1, a_eAnd2, a_tNot, a_tAnd0, a_tAnd1, a_tOr0, a_tOr1, a_tOf, a_tCmp2, a_tCmp3, a_eMeth, a_eO0, a_eO1, a_eCut, a_callF, a_callB, a_methF, ls1, ls2, ls3, ls4, a_bind, S_inj, String.reduceEq, reduceIte, a_fin1, a_fin2, a_fin3, Bool.not_true, Bool.not_false, a_trB, a_lt, a_le, a_gt, a_ge, a_eq, a_ne, a_add, a_sub, a_neg, a_mod, a_inW, a_niW, a_niD, decide_true, decide_false, nT2, nT3, nL0, nL1, a_eqB, a_eqS, a_neS, hs, at_at h, at_end h, at_data h, lt, Win.idx W hp, sp_77, hn x w rfl]
  | cons x y ih =>
    intro w a m ls hp hm hy hn W h hs
    obtain ⟨m, rfl⟩ : ∃ m', m = m' + 1 := ⟨m - 1, by simp at hm; omega⟩
    rw [List.all_cons, Bool.and_eq_true] at hy
    have lt : ((a : Int) < (e : Int)) := by have := Win.lt W; omega
    have s := St.set (o' := cur d ((a + 1 : Nat) : Int) e) h
    obtain ⟨hp', q, z⟩ := ih w (a + 1) m ls _ (by simp at hm; omega) hy.2 hn (Win.tail W) s.at_ hs
    refine ⟨hp', (w_step (h1 := hp) (l2 := ls) (h2 := hp.set c (cur d ((a + 1 : Nat) : Int) e)) ?_ ?_).trans q, ?_⟩
    · simp only [a_sAll0, a_sExpr, a_sAsg, a_sIf, a_sRet, a_sCont, a_sOne, a_eV, a_eLoc, a_e1, a_e2, a_eAll0, a_eAll1, a_eS, a_e1S, a_eIf, a_eTr, a_eAnd1, a_eAnd2, a_tNot, a_tAnd0, a_tAnd1, a_tOr0, a_tOr1, a_tOf, a_tCmp2, a_tCmp3, a_eMeth, a_eO0, a_eO1, a_eCut, a_callF, a_callB, a_methF, ls1, ls2, ls3, ls4, a_bind, S_inj, String.reduceEq, reduceIte, a_fin1, a_fin2, a_fin3, Bool.not_true, Bool.not_false, a_trB, a_lt, a_le, a_gt, a_ge, a_eq, a_ne, a_add, a_sub, a_neg, a_mod, a_inW, a_niW, a_niD, decide_true, decide_false, nT2, nT3, nL0, nL1, a_eqB, a_eqS, a_neS, hs, at_at h, at_end h, at_data h, lt, Win.idx W hp, sp_77, hy.1]
    · rw [step_at h (i := 1) (by simp only [a_sAll0, a_sExpr, a_sAsg, a_sIf, a_sRet, a_sCont, a_sOne, a_eV, a_eLoc, a_e1, a_e2, a_eAll0, a_eAll1, a_eS, a_e1S, a_eIf, a_eTr, a_eAnd1, a_eAnd2, a_tNot, a_tAnd0, a_tAnd1, a_tOr0, a_tOr1, a_tOf, a_tCmp2, a_tCmp3, a_eMeth, a_eO0, a_eO1, a_eCut, a_callF, a_callB, a_methF, ls1, ls2, ls3, ls4, a_bind, S_inj, String.reduceEq, reduceIte, a_fin1, a_fin2, a_fin3, Bool.not_true, Bool.not_false, a_trB, a_lt, a_le, a_gt, a_ge, a_eq, a_ne, a_add, a_sub, a_neg, a_mod, a_inW, a_niW, a_niD, decide_true, decide_false, nT2, nT3, nL0, nL1, a_eqB, a_eqS, a_neS, hs]) (by simp only [a_sAll0, a_sExpr, a_sAsg, a_sIf, a_sRet, a_sCont, a_sOne, a_eV, a_eLoc, a_e1, a_e2, a_eAll0, a_eAll1, a_eS, a_e1S, a_eIf, a_eTr, a_eAnd1, a_eAnd2, a_tNot, a_tAnd0, a_tAnd1, a_tOr0, a_tOr1, a_tOf, a_tCmp2, a_tCmp3, a_eMeth, a_eO0, a_eO1, a_eCut, a_callF, a_callB, a_methF, ls1, ls2, ls3, ls4, a_bind, S_inj, String.reduceEq, reduceIte, a_fin1, a_fin2, a_fin3, Bool.not_true, Bool.not_false, a_trB, a_lt, a_le, a_gt, a_ge, a_eq, a_ne, a_add, a_sub, a_neg, a_mod, a_inW, a_niW, a_niD, decide_true, decide_false, nT2, nT3, nL0, nL1, a_eqB, a_eqS, a_neS])]
      rfl
    · rw [List.length_cons, show a + (y.length + 1) = a + 1 + y.length by omega]
      exact s.trans z
theorem sp_149 {y w : List UInt8} {a : Nat} {hp : Hp} (h : hp[c]? = some (cur d a e)) (W : Win d a e (y ++ w)) (hy : y.all isR = true) (hn : HN w) (hm : y.length < n) :
    ∃ hp', orc n sc (k + 2) 149 [.ref c] hp = some (.bytes y, hp') ∧ St c (cur d ((a + y.length : Nat) : Int) e) hp hp' := by
  have l1 := W.le
  have l2 := W.lim
  have l3 := W.len
  rw [List.length_append] at l3
  have hc := cutB_at sc
  obtain ⟨hp', q, z⟩ := loop_149 (n := n) (sc := sc) (k := k) y w a n (bind1 (S "first") (.int (a : Int)) (lsOf [(Str.ofString "self", .ref c)])) hp hm hy hn W h (by simp only [a_sAll0, a_sExpr, a_sAsg, a_sIf, a_sRet, a_sCont, a_sOne, a_eV, a_eLoc, a_e1, a_e2, a_eAll0, a_eAll1, a_eS, a_e1S, a_eIf, a_eTr, a_eAnd1, a_eAnd2, a_tNot, a_tAnd0, a_tAnd1, a_tOr0, a_tOr1, a_tOf, a_tCmp2, a_tCmp3, a_eMeth, a_eO0, a_eO1, a_eCut, a_callF, a_callB, a_methF, ls1, ls2, ls3, ls4, a_bind, S_inj, String.reduceEq, reduceIte, a_fin1, a_fin2, a_fin3, Bool.not_true, Bool.not_false, a_trB, a_lt, a_le, a_gt, a_ge, a_eq, a_ne, a_add, a_sub, a_neg, a_mod, a_inW, a_niW, a_niD, decide_true, decide_false, nT2, nT3, nL0, nL1, a_eqB, a_eqS, a_neS])
  refine ⟨hp', ?_, z⟩
  rw [orc_def rfl rfl rfl (den_149 ..)]
  simp only [body_149, a_sAsg, a_e1, a_eLoc, ls1, S_inj, String.reduceEq, reduceIte, at_at h]
  rw [a_sWhile _ _ _ _ _ _ _ _ q]
  simp only [a_sAll0, a_sExpr, a_sAsg, a_sIf, a_sRet, a_sCont, a_sOne, a_eV, a_eLoc, a_e1, a_e2, a_eAll0, a_eAll1, a_eS, a_e1S, a_eIf, a_eTr, a_eAnd1, a_eAnd2, a_tNot, a_tAnd0, a_tAnd1, a_tOr0, a_tOr1, a_tOf, a_tCmp2, a_tCmp3, a_eMeth, a_eO0, a_eO1, a_eCut, a_callF, a_callB, a_methF, ls1, ls2, ls3, ls4, a_bind, S_inj, String.reduceEq, reduceIte, a_fin1, a_fin2, a_fin3, Bool.not_true, Bool.not_false, a_trB, a_lt, a_le, a_gt, a_ge, a_eq, a_ne, a_add, a_sub, a_neg, a_mod, a_inW, a_niW, a_niD, decide_true, decide_false, nT2, nT3, nL0, nL1, a_eqB, a_eqS, a_neS, at_data z.at_, at_at z.at_, cutB_at sc hp' d l2 (i := a) (j := a + y.length) (by omega) (by omega)]
  have : (d.take (a + y.length)).drop a = y := by
    have hh := congrArg (List.take y.length) W.eq
    rw [List.take_left, List.take_drop, List.take_take, Nat.min_eq_left (by omega)] at hh
    exact hh
  rw [this]
/-- what skip_white goes over -/
inductive Wh : List UInt8 → Prop
  | nil : Wh []
  | white (x : UInt8) (b : List UInt8) : isW x = true → Wh b → Wh (x :: b)
  | com (y : List UInt8) (x : UInt8) (b : List UInt8) : y.all (fun c => c != 10 && c != 13) = true → (x = 10 ∨ x = 13) → Wh (x :: b) → Wh (37 :: y ++ x :: b)
/-- where skip_white stops -/
def HB (w : List UInt8) : Prop := ∀ x w', w = x :: w' → isW x = false ∧ x ≠ 37
theorem loop_com : ∀ (y : List UInt8) (x : UInt8) (w : List UInt8) (a m : Nat) (ls : Ls) (hp : Hp), y.length < m → y.all (fun c => c != 10 && c != 13) = true → (x = 10 ∨ x = 13) → Win d a e (y ++ x :: w) → hp[c]? = some (cur d a e) → ls (S "self") = some (.ref c) →
    ∃ hp', sWhile (tAnd [(tCmp2 (cmpV .Lt) (e1 (attrV (S "at")) (eLoc (S "self"))) (e1 (attrV (S "end")) (eLoc (S "self")))), (tCmp2 (cmpV .NotIn) (e2 idxV (e1 (attrV (S "data")) (eLoc (S "self"))) (e1 (attrV (S "at")) (eLoc (S "self")))) (eS (newO .tuple) [(eV (.int 10)), (eV (.int 13))]))]) (sAll [(sAttr (eLoc (S "self")) (S "at") (e2 (binV .Add) (e1 (attrV (S "at")) (eLoc (S "self"))) (eV (.int 1))))]) m ls hp = some (.next, ls, hp') ∧ St c (cur d ((a + y.length : Nat) : Int) e) hp hp' := by
  intro y
  induction y with
  | nil =>
    intro x w a m ls hp hm _ hx W h hs
    obtain ⟨m, rfl⟩ : ∃ m', m = m' + 1 := ⟨m - 1, by simp at hm; omega⟩
    refine ⟨hp ++ [O.tuple [.int 10, .int 13]], w_stop ?_, St.push h _⟩
    have lt : ((a : Int) < (e : Int)) := by have := Win.lt W; omega
    simp only [a_sAll0, a_sExpr, a_sAsg, a_sIf, a_sRet, a_sCont, a_sOne, a_eV, a_eLoc, a_e1, a_e2, a_eAll0, a_eAll1, a_eS, a_e1S, a_eIf, a_eTr, a_eAnd1, a_eAnd2, a_tNot, a_tAnd0, a_tAnd1, a_tOr0, a_tOr1, a_tOf, a_tCmp2, a_tCmp3, a_eMeth, a_eO0, a_eO1, a_eCut, a_callF, a_callB, a_methF, ls1, ls2, ls3, ls4, a_bind, S_inj, String.reduceEq, reduceIte, a_fin1, a_fin2, a_fin3, Bool.not_true, Bool.not_false, a_trB, a_lt, a_le, a_gt, a_ge, a_eq, a_ne, a_add, a_sub, a_neg, a_mod, a_inW, a_niW, a_niD, decide_true, decide_false, nT2, nT3, nL0, nL1, a_eqB, a_eqS, a_neS, hs, at_at h, at_end h, at_data h, lt, Win.idx W hp, nT2, a_tuple2 _ _ _ (new_at hp _)]
    rcases hx with rfl | rfl <;> rfl
  | cons y0 y ih =>
    intro x w a m ls hp hm hy hx W h hs
    obtain ⟨m, rfl⟩ : ∃ m', m = m' + 1 := ⟨m - 1, by simp at hm; omega⟩
    rw [List.all_cons, Bool.and_eq_true, Bool.and_eq_true] at hy
    have lt : ((a : Int) < (e : Int)) := by have := Win.lt W; omega
    have p := St.push h [O.tuple [.int 10, .int 13]]
    have s := p.trans (St.set (o' := cur d ((a + 1 : Nat) : Int) e) p.at_)
    obtain ⟨hp', q, z⟩ := ih x w (a + 1) m ls _ (by simp at hm; omega) hy.2 hx (Win.tail W) s.at_ hs
    refine ⟨hp', (w_step (h1 := hp ++ [O.tuple [.int 10, .int 13]]) (l2 := ls) (h2 := (hp ++ [O.tuple [.int 10, .int 13]]).set c (cur d ((a + 1 : Nat) : Int) e)) ?_ ?_).trans q, ?_⟩
    · have e1 : ((y0.toNat : Int) == 10) = false := beq_eq_false_iff_ne.mpr fun q => bne_iff_ne.mp hy.1.1 (UInt8.toNat_inj.mp (by show y0.toNat = 10; omega))
      have e2 : ((y0.toNat : Int) == 13) = false := beq_eq_false_iff_ne.mpr fun q => bne_iff_ne.mp hy.1.2 (UInt8.toNat_inj.mp (by show y0.toNat = 13; omega))
      simp only [a_sAll0, a_sExpr, a_sAsg, a_sIf, a_sRet, a_sCont, a_sOne, a_eV, a_eLoc, a_e1, a_e2, a_eAll0, a_eAll1, a_eS, a_e1S, a_eIf, a_eTr, a_eAnd1, a_eAnd2, a_tNot, a_tAnd0, a_tAnd1, a_tOr0, a_tOr1, a_tOf, a_tCmp2, a_tCmp3, a_eMeth, a_eO0, a_eO1, a_eCut, a_callF, a_callB, a_methF, ls1, ls2, ls3, ls4, a_bind, S_inj, String.reduceEq, reduceIte, a_fin1, a_fin2, a_fin3, Bool.not_true, Bool.not_false, a_trB, a_lt, a_le, a_gt, a_ge, a_eq, a_ne, a_add, a_sub, a_neg, a_mod, a_inW, a_niW, a_niD, decide_true, decide_false, nT2, nT3, nL0, nL1, a_eqB, a_eqS, a_neS, hs, at_at h, at_end h, at_data h, lt, Win.idx W hp, nT2, a_tuple2 _ _ _ (new_at hp _), e1, e2]
      rfl
    · rw [step_at p.at_ (i := 1) (by simp only [a_sAll0, a_sExpr, a_sAsg, a_sIf, a_sRet, a_sCont, a_sOne, a_eV, a_eLoc, a_e1, a_e2, a_eAll0, a_eAll1, a_eS, a_e1S, a_eIf, a_eTr, a_eAnd1, a_eAnd2, a_tNot, a_tAnd0, a_tAnd1, a_tOr0, a_tOr1, a_tOf, a_tCmp2, a_tCmp3, a_eMeth, a_eO0, a_eO1, a_eCut, a_callF, a_callB, a_methF, ls1, ls2, ls3, ls4, a_bind, S_inj, String.reduceEq, reduceIte, a_fin1, a_fin2, a_fin3, Bool.not_true, Bool.not_false, a_trB, a_lt, a_le, a_gt, a_ge, a_eq, a_ne, a_add, a_sub, a_neg, a_mod, a_inW, a_niW, a_niD, decide_true, decide_false, nT2, nT3, nL0, nL1, a_eqB, a_eqS, a_neS, hs]) (by simp only [a_sAll0, a_sExpr, a_sAsg, a_sIf, a_sRet, a_sCont, a_sOne, a_eV, a_eLoc, a_e1, a_e2, a_eAll0, a_eAll1, a_eS, a_e1S, a_eIf, a_eTr, a_eAnd1, a_eAnd2, a_tNot, a_tAnd0, a_tAnd1, a_tOr0, a_tOr1, a_tOf, a_tCmp2, a_tCmp3, a_eMeth, a_eO0, a_eO1, a_eCut, a_callF, a_callB, a_methF, ls1, ls2, ls3, ls4, a_bind, S_inj, String.reduceEq, reduceIte, a_fin1, a_fin2, a_fin3, Bool.not_true, Bool.not_false, a_trB, a_lt, a_le, a_gt, a_ge, a_eq, a_ne, a_add, a_sub, a_neg, a_mod, a_inW, a_niW, a_niD, decide_true, decide_false, nT2, nT3, nL0, nL1, a_eqB, a_eqS, a_neS])]
      rfl
    · rw [List.length_cons, show a + (y.length + 1) = a + 1 + y.length by omega]
      exact s.trans z
theorem bind_ne {x y : String} {v : V} {ls : Ls} (h : y ≠ x) : bind1 (S x) v ls (S y) = ls (S y) := by
  unfold bind1
  rw [if_neg (by rw [S_inj]; exact h)]
theorem loop_142 : ∀ (b : List UInt8), Wh b → ∀ (w : List UInt8) (a m : Nat) (ls : Ls) (hp : Hp), b.length < m → b.length < n → HB w → Win d a e (b ++ w) → hp[c]? = some (cur d a e) → ls (S "self") = some (.ref c) →
    ∃ f ls' hp', sWhile (tCmp2 (cmpV .Lt) (e1 (attrV (S "at")) (eLoc (S "self"))) (e1 (attrV (S "end")) (eLoc (S "self")))) (sAll [(sAsg (S "code") (e2 idxV (e1 (attrV (S "data")) (eLoc (S "self"))) (e1 (attrV (S "at")) (eLoc (S "self"))))), (sIf (tCmp2 (cmpV .Eq) (eLoc (S "code")) (eV (.int 37))) (sAll [(sWhile (tAnd [(tCmp2 (cmpV .Lt) (e1 (attrV (S "at")) (eLoc (S "self"))) (e1 (attrV (S "end")) (eLoc (S "self")))), (tCmp2 (cmpV .NotIn) (e2 idxV (e1 (attrV (S "data")) (eLoc (S "self"))) (e1 (attrV (S "at")) (eLoc (S "self")))) (eS (newO .tuple) [(eV (.int 10)), (eV (.int 13))]))]) (sAll [(sAttr (eLoc (S "self")) (S "at") (e2 (binV .Add) (e1 (attrV (S "at")) (eLoc (S "self"))) (eV (.int 1))))]) n)]) (sAll [(sIf (tCmp2 (cmpV .In) (eLoc (S "code")) (eV (.seq 62))) (sAll [(sAttr (eLoc (S "self")) (S "at") (e2 (binV .Add) (e1 (attrV (S "at")) (eLoc (S "self"))) (eV (.int 1))))]) (sAll [(sRet (eV .none))]))]))]) m ls hp = some (f, ls', hp') ∧ (f = .next ∨ f = .ret .none) ∧ St c (cur d ((a + b.length : Nat) : Int) e) hp hp' := by
  intro b B
  induction B with
  | nil =>
    intro w a m ls hp hm _ hn W h hs
    obtain ⟨m, rfl⟩ : ∃ m', m = m' + 1 := ⟨m - 1, by simp at hm; omega⟩
    cases w with
    | nil =>
      refine ⟨_, _, hp, w_stop ?_, .inl rfl, St.refl h⟩
      have lt : ¬ ((a : Int) < (e : Int)) := by have := Win.nil W; omega
      simp only [a_sAll0, a_sExpr, a_sAsg, a_sIf, a_sRet, a_sCont, a_sOne, a_eV, a_eLoc, a_e1, a_e2, a_eAll0, a_eAll1, a_eS, a_e1S, a_eIf, a_eTr, a_eAnd1, a_eAnd2, a_tNot, a_tAnd0, a_tAnd1, a_tOr0, a_tOr1, a_tOf, a_tCmp2, a_tCmp3, a_eMeth, a_eO0, a_eO1, a_eCut, a_callF, a_callB, a_methF, ls1, ls2, ls3, ls4, a_bind, S_inj, String.reduceEq, reduceIte, a_fin1, a_fin2, a_fin3, Bool.not_true, Bool.not_false, a_trB, a_lt, a_le, a_gt, a_ge, a_eq, a_ne, a_add, a_sub, a_neg, a_mod, a_inW, a_niW, a_niD, decide_true, decide_false, nT2, nT3, nL0, nL1, a_eqB, a_eqS, a_neS, hs, at_at h, at_end h, lt]
    | cons x w =>
      have lt : ((a : Int) < (e : Int)) := by have := Win.lt W; omega
      have hx := hn x w rfl
      have e1 : ¬ ((x.toNat : Int) = 37) := fun q => hx.2 (UInt8.toNat_inj.mp (by show x.toNat = 37; omega))
      refine ⟨.ret .none, bind1 (S "code") (.int (x.toNat : Int)) ls, hp, w_ret (h1 := hp) ?_ ?_, .inr rfl, St.refl h⟩
      · simp only [a_sAll0, a_sExpr, a_sAsg, a_sIf, a_sRet, a_sCont, a_sOne, a_eV, a_eLoc, a_e1, a_e2, a_eAll0, a_eAll1, a_eS, a_e1S, a_eIf, a_eTr, a_eAnd1, a_eAnd2, a_tNot, a_tAnd0, a_tAnd1, a_tOr0, a_tOr1, a_tOf, a_tCmp2, a_tCmp3, a_eMeth, a_eO0, a_eO1, a_eCut, a_callF, a_callB, a_methF, ls1, ls2, ls3, ls4, a_bind, S_inj, String.reduceEq, reduceIte, a_fin1, a_fin2, a_fin3, Bool.not_true, Bool.not_false, a_trB, a_lt, a_le, a_gt, a_ge, a_eq, a_ne, a_add, a_sub, a_neg, a_mod, a_inW, a_niW, a_niD, decide_true, decide_false, nT2, nT3, nL0, nL1, a_eqB, a_eqS, a_neS, hs, at_at h, at_end h, at_data h, lt]
      · simp only [a_sIf, a_sAll0, a_sExpr, a_sAsg, a_sIf, a_sRet, a_sCont, a_sOne, a_eV, a_eLoc, a_e1, a_e2, a_eAll0, a_eAll1, a_eS, a_e1S, a_eIf, a_eTr, a_eAnd1, a_eAnd2, a_tNot, a_tAnd0, a_tAnd1, a_tOr0, a_tOr1, a_tOf, a_tCmp2, a_tCmp3, a_eMeth, a_eO0, a_eO1, a_eCut, a_callF, a_callB, a_methF, ls1, ls2, ls3, ls4, a_bind, S_inj, String.reduceEq, reduceIte, a_fin1, a_fin2, a_fin3, Bool.not_true, Bool.not_false, a_trB, a_lt, a_le, a_gt, a_ge, a_eq, a_ne, a_add, a_sub, a_neg, a_mod, a_inW, a_niW, a_niD, decide_true, decide_false, nT2, nT3, nL0, nL1, a_eqB, a_eqS, a_neS, hs, at_at h, at_end h, at_data h, Win.idx W hp, e1, a_isW, hx.1, a_then1]
  | white x b hx B ih =>
    intro w a m ls hp hm hm2 hn W h hs
    obtain ⟨m, rfl⟩ : ∃ m', m = m' + 1 := ⟨m - 1, by simp at hm; omega⟩
    have lt : ((a : Int) < (e : Int)) := by have := Win.lt W; omega
    have e1 : ¬ ((x.toNat : Int) = 37) := fun q => by
      have : x = 37 := UInt8.toNat_inj.mp (by show x.toNat = 37; omega)
      subst this
      revert hx; decide
    have s := St.set (o' := cur d ((a + 1 : Nat) : Int) e) h
    obtain ⟨f, ls', hp', q, qf, z⟩ := ih w (a + 1) m (bind1 (S "code") (.int (x.toNat : Int)) ls) _ (by simp at hm; omega) (by simp at hm2; omega) hn (Win.tail W) s.at_ (by rw [bind_ne (by decide)]; exact hs)
    refine ⟨f, ls', hp', (w_step (h1 := hp) (l2 := bind1 (S "code") (.int (x.toNat : Int)) ls) (h2 := hp.set c (cur d ((a + 1 : Nat) : Int) e)) ?_ ?_).trans q, qf, ?_⟩
    · simp only [a_sAll0, a_sExpr, a_sAsg, a_sIf, a_sRet, a_sCont, a_sOne, a_eV, a_eLoc, a_e1, a_e2, a_eAll0, a_eAll1, a_eS, a_e1S, a_eIf, a_eTr, a_eAnd1, a_eAnd2, a_tNot, a_tAnd0, a_tAnd1, a_tOr0, a_tOr1, a_tOf, a_tCmp2, a_tCmp3, a_eMeth, a_eO0, a_eO1, a_eCut, a_callF, a_callB, a_methF, ls1, ls2, ls3, ls4, a_bind, S_inj, String.reduceEq, reduceIte, a_fin1, a_fin2, a_fin3, Bool.not_true, Bool.not_false, a_trB, a_lt, a_le, a_gt, a_ge, a_eq, a_ne, a_add, a_sub, a_neg, a_mod, a_inW, a_niW, a_niD, decide_true, decide_false, nT2, nT3, nL0, nL1, a_eqB, a_eqS, a_neS, hs, at_at h, at_end h, at_data h, lt]
    · simp only [a_sIf, a_sAll0, a_sExpr, a_sAsg, a_sIf, a_sRet, a_sCont, a_sOne, a_eV, a_eLoc, a_e1, a_e2, a_eAll0, a_eAll1, a_eS, a_e1S, a_eIf, a_eTr, a_eAnd1, a_eAnd2, a_tNot, a_tAnd0, a_tAnd1, a_tOr0, a_tOr1, a_tOf, a_tCmp2, a_tCmp3, a_eMeth, a_eO0, a_eO1, a_eCut, a_callF, a_callB, a_methF, ls1, ls2, ls3, ls4, a_bind, S_inj, String.reduceEq, reduceIte, a_fin1, a_fin2, a_fin3, Bool.not_true, Bool.not_false, a_trB, a_lt, a_le, a_gt, a_ge, a_eq, a_ne, a_add, a_sub, a_neg, a_mod, a_inW, a_niW, a_niD, decide_true, decide_false, nT2, nT3, nL0, nL1, a_eqB, a_eqS, a_neS, hs, at_at h, at_end h, at_data h, Win.idx W hp, e1, a_isW, hx]
      rw [step_at h (i := 1) (by simp only [a_sAll0, a_sExpr, a_sAsg, a_sIf, a_sRet, a_sCont, a_sOne, a_eV, a_eLoc, a_e1, a_e2, a_eAll0, a_eAll1, a_eS, a_e1S, a_eIf, a_eTr, a_eAnd1, a_eAnd2, a_tNot, a_tAnd0, a_tAnd1, a_tOr0, a_tOr1, a_tOf, a_tCmp2, a_tCmp3, a_eMeth, a_eO0, a_eO1, a_eCut, a_callF, a_callB, a_methF, ls1, ls2, ls3, ls4, a_bind, S_inj, String.reduceEq, reduceIte, a_fin1, a_fin2, a_fin3, Bool.not_true, Bool.not_false, a_trB, a_lt, a_le, a_gt, a_ge, a_eq, a_ne, a_add, a_sub, a_neg, a_mod, a_inW, a_niW, a_niD, decide_true, decide_false, nT2, nT3, nL0, nL1, a_eqB, a_eqS, a_neS, hs]) (by simp only [a_sAll0, a_sExpr, a_sAsg, a_sIf, a_sRet, a_sCont, a_sOne, a_eV, a_eLoc, a_e1, a_e2, a_eAll0, a_eAll1, a_eS, a_e1S, a_eIf, a_eTr, a_eAnd1, a_eAnd2, a_tNot, a_tAnd0, a_tAnd1, a_tOr0, a_tOr1, a_tOf, a_tCmp2, a_tCmp3, a_eMeth, a_eO0, a_eO1, a_eCut, a_callF, a_callB, a_methF, ls1, ls2, ls3, ls4, a_bind, S_inj, String.reduceEq, reduceIte, a_fin1, a_fin2, a_fin3, Bool.not_true, Bool.not_false, a_trB, a_lt, a_le, a_gt, a_ge, a_eq, a_ne, a_add, a_sub, a_neg, a_mod, a_inW, a_niW, a_niD, decide_true, decide_false, nT2, nT3, nL0, nL1, a_eqB, a_eqS, a_neS])]
      rfl
    · rw [List.length_cons, show a + (b.length + 1) = a + 1 + b.length by omega]
      exact s.trans z
  | com y x b hy hx B ih =>
    intro w a m ls hp hm hm2 hn W h hs
    obtain ⟨m, rfl⟩ : ∃ m', m = m' + 1 := ⟨m - 1, by simp at hm; omega⟩
    have lt : ((a : Int) < (e : Int)) := by have := Win.lt W; omega
    simp only [List.length_append, List.length_cons] at hm hm2
    have wi : idxV (.bytes d) (.int (a : Int)) hp = some (.int 37, hp) := Win.idx W hp
    have W2 : Win d a e ((37 :: y) ++ x :: (b ++ w)) := by rw [List.append_assoc] at W; exact W
    have hs2 : bind1 (S "code") (.int 37) ls (S "self") = some (.ref c) := by rw [bind_ne (by decide)]; exact hs
    obtain ⟨hp1, q1, z1⟩ := loop_com (37 :: y) x (b ++ w) a n (bind1 (S "code") (.int 37) ls) hp (by rw [List.length_cons]; omega) (by rw [List.all_cons, hy]; rfl) hx W2 h hs2
    obtain ⟨f, ls', hp', q, qf, z⟩ := ih w (a + (37 :: y).length) m (bind1 (S "code") (.int 37) ls) hp1 (by rw [List.length_cons]; omega) (by rw [List.length_cons]; omega) hn W2.next z1.at_ hs2
    refine ⟨f, ls', hp', (w_step (h1 := hp) (l2 := bind1 (S "code") (.int 37) ls) (h2 := hp1) ?_ ?_).trans q, qf, ?_⟩
    · simp only [a_sAll0, a_sExpr, a_sAsg, a_sIf, a_sRet, a_sCont, a_sOne, a_eV, a_eLoc, a_e1, a_e2, a_eAll0, a_eAll1, a_eS, a_e1S, a_eIf, a_eTr, a_eAnd1, a_eAnd2, a_tNot, a_tAnd0, a_tAnd1, a_tOr0, a_tOr1, a_tOf, a_tCmp2, a_tCmp3, a_eMeth, a_eO0, a_eO1, a_eCut, a_callF, a_callB, a_methF, ls1, ls2, ls3, ls4, a_bind, S_inj, String.reduceEq, reduceIte, a_fin1, a_fin2, a_fin3, Bool.not_true, Bool.not_false, a_trB, a_lt, a_le, a_gt, a_ge, a_eq, a_ne, a_add, a_sub, a_neg, a_mod, a_inW, a_niW, a_niD, decide_true, decide_false, nT2, nT3, nL0, nL1, a_eqB, a_eqS, a_neS, hs, at_at h, at_end h, at_data h, lt]
    · simp only [a_sIf, a_sAll0, a_sExpr, a_sAsg, a_sIf, a_sRet, a_sCont, a_sOne, a_eV, a_eLoc, a_e1, a_e2, a_eAll0, a_eAll1, a_eS, a_e1S, a_eIf, a_eTr, a_eAnd1, a_eAnd2, a_tNot, a_tAnd0, a_tAnd1, a_tOr0, a_tOr1, a_tOf, a_tCmp2, a_tCmp3, a_eMeth, a_eO0, a_eO1, a_eCut, a_callF, a_callB, a_methF, ls1, ls2, ls3, ls4, a_bind, S_inj, String.reduceEq, reduceIte, a_fin1, a_fin2, a_fin3, Bool.not_true, Bool.not_false, a_trB, a_lt, a_le, a_gt, a_ge, a_eq, a_ne, a_add, a_sub, a_neg, a_mod, a_inW, a_niW, a_niD, decide_true, decide_false, nT2, nT3, nL0, nL1, a_eqB, a_eqS, a_neS, hs, at_at h, at_end h, at_data h, wi]
      rw [a_sWhile _ _ _ _ _ _ _ _ q1]
      rfl
    · rw [show a + (37 :: y ++ x :: b).length = a + (37 :: y).length + (x :: b).length by simp only [List.length_append, List.length_cons]; omega]
      exact z1.trans z
theorem sp_142 {b w : List UInt8} (B : Wh b) {a : Nat} {hp : Hp} (hm : b.length < n) (hn : HB w) (W : Win d a e (b ++ w)) (h : hp[c]? = some (cur d a e)) :
    ∃ hp', orc n sc (k + 1) 142 [.ref c] hp = some (.none, hp') ∧ St c (cur d ((a + b.length : Nat) : Int) e) hp hp' := by
  obtain ⟨f, ls', hp', q, qf, z⟩ := loop_142 (n := n) (c := c) b B w a n (lsOf [(Str.ofString "self", .ref c)]) hp hm hm hn W h (by rw [ls1]; exact if_pos rfl)
  refine ⟨hp', ?_, z⟩
  rw [orc_def rfl rfl rfl (den_142 ..)]
  unfold body_142
  rcases qf with rfl | rfl
  · rw [a_sWhile _ _ _ _ _ _ _ _ q]; rfl
  · rw [a_sWhileR _ _ _ _ _ _ _ _ _ q]; rfl
end
end Mine

open PySem PySem.W PyProof.Rows PySem.Calls
set_option Elab.async false
set_option maxRecDepth 100000
set_option maxHeartbeats 1000000
set_option linter.all false
namespace Mine
theorem put_p {o t : Ev} {a : Str} {ls : Ls} {hp : Hp} (v : V) {i : Nat} {C : Addr} {fs fs' : List (Str × V)} (h : hp[i]? = some (.inst C fs)) (hf : fput fs a v = fs') (ok : attrOk C a) (l : fs.length ≤ 10) (ht : t ls hp = some (v, hp)) (ho : o ls hp = some (.ref i, hp)) (es : List Ex) :
    sAll (sAttr o a t :: es) ls hp = sAll es ls (hp.set i (.inst C fs')) := by
  refine a_sOne _ _ _ _ _ _ ?_
  unfold sAttr
  rw [ht]
  dsimp only
  rw [ho]
  dsimp only
  rw [h]
  dsimp only
  rw [if_pos ⟨ok, l⟩, hf]
theorem set_at {hp : Hp} {c : Nat} {o o' : O} (h : hp[c]? = some o) : (hp.set c o')[c]? = some o' := (St.set h).at_
theorem ok_d : attrOk 187 (S "data") := .inl ⟨rfl, .inl rfl⟩
theorem ok_a : attrOk 187 (S "at") := .inl ⟨rfl, .inr (.inl rfl)⟩
theorem ok_e : attrOk 187 (S "end") := .inl ⟨rfl, .inr (.inr rfl)⟩
theorem ok_t : attrOk 285 (S "top") := .inr ⟨rfl, .inl rfl⟩
theorem ok_p : attrOk 285 (S "places") := .inr ⟨rfl, .inr rfl⟩
section
variable {n : Nat} {sc : Addr × List Int} {k : Nat} {C : Orc}
noncomputable def endOf (d : List UInt8) (e : Int) : Int := if e < 0 then d.length else if (d.length : Int) < e then d.length else e
theorem a_min (a b : Int) (hp : Hp) : callB .min [.int a, .int b] hp = some (.int (if b < a then b else a), hp) := rfl
theorem sp_99 {d : List UInt8} {a e : Int} {hp : Hp} {c : Nat} {ls : Ls} (h : hp[c]? = some (.inst 187 [])) (h1 : ls (S "self") = some (.ref c)) (h2 : ls (S "data") = some (.bytes d)) (h3 : ls (S "at") = some (.int a)) (h4 : ls (S "end") = some (.int e)) (hd : d.length ≤ 10000) :
    fin (sAll (body_99 C n sc) ls hp) = some (.none, hp.set c (cur d a (endOf d e))) := by
  unfold body_99
  rw [put_p (fs' := [(S "data", .bytes d)]) (.bytes d) h rfl ok_d (Nat.zero_le _) (by simp only [a_eLoc, h2]) (by simp only [a_eLoc, h1]),
    put_p (fs' := [(S "data", .bytes d), (S "at", .int a)]) (.int a) (set_at h) (by simp only [fput, S_inj, String.reduceEq, reduceIte]) ok_a (by simp only [List.length_cons, List.length_nil, Nat.reduceAdd, Nat.reduceLeDiff]) (by simp only [a_eLoc, h3]) (by simp only [a_eLoc, h1]),
    put_p (fs' := [(S "data", .bytes d), (S "at", .int a), (S "end", .int (endOf d e))]) (.int (endOf d e)) (set_at (set_at h)) (by simp only [fput, S_inj, String.reduceEq, reduceIte]) ok_e (by simp only [List.length_cons, List.length_nil, Nat.reduceAdd, Nat.reduceLeDiff]) ?_ (by simp only [a_eLoc, h1])]
  · rw [List.set_set, List.set_set, a_sAll0, a_fin2]
    rfl
  · unfold endOf
    by_cases q : e < 0
    · simp only [a_sAll0, a_sExpr, a_sAsg, a_sIf, a_sRet, a_sCont, a_sOne, a_eV, a_eLoc, a_e1, a_e2, a_eAll0, a_eAll1, a_eS, a_e1S, a_eIf, a_eTr, a_eAnd1, a_eAnd2, a_tNot, a_tAnd0, a_tAnd1, a_tOr0, a_tOr1, a_tOf, a_tCmp2, a_tCmp3, a_eMeth, a_eO0, a_eO1, a_eCut, a_callF, a_callB, a_methF, ls1, ls2, ls3, ls4, a_bind, S_inj, String.reduceEq, reduceIte, a_fin1, a_fin2, a_fin3, Bool.not_true, Bool.not_false, a_trB, a_lt, a_le, a_gt, a_ge, a_eq, a_ne, a_add, a_sub, a_neg, a_mod, a_inW, a_niW, a_niD, decide_true, decide_false, nT2, nT3, nL0, nL1, a_eqB, a_eqS, a_neS, h2, h4, q, a_lenB _ d (by omega)]
    · simp only [a_sAll0, a_sExpr, a_sAsg, a_sIf, a_sRet, a_sCont, a_sOne, a_eV, a_eLoc, a_e1, a_e2, a_eAll0, a_eAll1, a_eS, a_e1S, a_eIf, a_eTr, a_eAnd1, a_eAnd2, a_tNot, a_tAnd0, a_tAnd1, a_tOr0, a_tOr1, a_tOf, a_tCmp2, a_tCmp3, a_eMeth, a_eO0, a_eO1, a_eCut, a_callF, a_callB, a_methF, ls1, ls2, ls3, ls4, a_bind, S_inj, String.reduceEq, reduceIte, a_fin1, a_fin2, a_fin3, Bool.not_true, Bool.not_false, a_trB, a_lt, a_le, a_gt, a_ge, a_eq, a_ne, a_add, a_sub, a_neg, a_mod, a_inW, a_niW, a_niD, decide_true, decide_false, nT2, nT3, nL0, nL1, a_eqB, a_eqS, a_neS, h2, h4, q, a_lenB _ d (by omega), a_min]
theorem set_new (hp : Hp) (o o' : O) : (hp ++ [o]).set hp.length o' = hp ++ [o'] := by
  rw [List.set_append_right _ _ (Nat.le_refl _), Nat.sub_self]; rfl
theorem sp_187 {d : List UInt8} {a e : Int} {hp : Hp} {vs : List V} {bs : List (Str × V)} (hb : arInit (.ref hp.length :: vs) = some bs) (h1 : lsOf bs (S "self") = some (.ref hp.length)) (h2 : lsOf bs (S "data") = some (.bytes d)) (h3 : lsOf bs (S "at") = some (.int a)) (h4 : lsOf bs (S "end") = some (.int e)) (hd : d.length ≤ 10000) :
    orc n sc (k + 2) 187 vs hp = some (.ref hp.length, hp ++ [cur d a (endOf d e)]) := by
  have h := sp_99 (C := orc n sc k) (n := n) (sc := sc) (new_at hp (.inst 187 [])) h1 h2 h3 h4 hd
  rw [set_new] at h
  refine orc_class (fI := 99) rfl rfl ?_
  rw [orc_def rfl hb rfl (den_99 ..)]
  exact h
theorem sp_187a {d : List UInt8} {hp : Hp} (hd : d.length ≤ 10000) : orc n sc (k + 2) 187 [.bytes d] hp = some (.ref hp.length, hp ++ [cur d 0 d.length]) := by
  rw [sp_187 (d := d) (a := 0) (e := -1) rfl (by rw [ls4]; simp only [S_inj, String.reduceEq, reduceIte]) (by rw [ls4]; simp only [S_inj, String.reduceEq, reduceIte]) (by rw [ls4]; simp only [S_inj, String.reduceEq, reduceIte]) (by rw [ls4]; simp only [S_inj, String.reduceEq, reduceIte]) hd]
  rfl
theorem sp_187b {d : List UInt8} {a : Int} {hp : Hp} (hd : d.length ≤ 10000) : orc n sc (k + 2) 187 [.bytes d, .int a] hp = some (.ref hp.length, hp ++ [cur d a d.length]) := by
  rw [sp_187 (d := d) (a := a) (e := -1) rfl (by rw [ls4]; simp only [S_inj, String.reduceEq, reduceIte]) (by rw [ls4]; simp only [S_inj, String.reduceEq, reduceIte]) (by rw [ls4]; simp only [S_inj, String.reduceEq, reduceIte]) (by rw [ls4]; simp only [S_inj, String.reduceEq, reduceIte]) hd]
  rfl
theorem sp_187c {d : List UInt8} {a : Int} {e : Nat} {hp : Hp} (hd : d.length ≤ 10000) (he : e ≤ d.length) : orc n sc (k + 2) 187 [.bytes d, .int a, .int (e : Int)] hp = some (.ref hp.length, hp ++ [cur d a (e : Int)]) := by
  rw [sp_187 (d := d) (a := a) (e := (e : Int)) rfl (by rw [ls4]; simp only [S_inj, String.reduceEq, reduceIte]) (by rw [ls4]; simp only [S_inj, String.reduceEq, reduceIte]) (by rw [ls4]; simp only [S_inj, String.reduceEq, reduceIte]) (by rw [ls4]; simp only [S_inj, String.reduceEq, reduceIte]) hd]
  unfold endOf
  rw [if_neg (by omega), if_neg (by omega)]
/-- a Decimal's least form -/
noncomputable def nrm : Nat → Int → Int × Nat
  | 0, t => (t, 0)
  | q + 1, t => if t.fmod 10 = 0 then nrm q (t.fdiv 10) else (t, q + 1)
theorem loop_205 : ∀ (q : Nat) (t : Int) (m : Nat) (ls : Ls) (hp : Hp) (v : V), q < m → ls (S "places") = some (.int (q : Int)) → ls (S "top") = some (.int t) → ls (S "self") = some v →
    ∃ ls', sWhile (tAnd [(tCmp2 (cmpV .Gt) (eLoc (S "places")) (eV (.int 0))), (tCmp2 (cmpV .Eq) (e2 (binV .Mod) (eLoc (S "top")) (eV (.int 10))) (eV (.int 0)))]) (sAll [(sAsg (S "top") (e2 (binV .FloorDiv) (eLoc (S "top")) (eV (.int 10)))), (sAsg (S "places") (e2 (binV .Sub) (eLoc (S "places")) (eV (.int 1))))]) m ls hp = some (.next, ls', hp) ∧ ls' (S "places") = some (.int ((nrm q t).2 : Int)) ∧ ls' (S "top") = some (.int (nrm q t).1) ∧ ls' (S "self") = some v := by
  intro q
  induction q with
  | zero =>
    intro t m ls hp v hm h1 h2 h3
    obtain ⟨m, rfl⟩ : ∃ m', m = m' + 1 := ⟨m - 1, by omega⟩
    refine ⟨ls, w_stop ?_, h1, h2, h3⟩
    have lt : ¬ ((0 : Int) < ((0 : Nat) : Int)) := by omega
    simp only [a_sAll0, a_sExpr, a_sAsg, a_sIf, a_sRet, a_sCont, a_sOne, a_eV, a_eLoc, a_e1, a_e2, a_eAll0, a_eAll1, a_eS, a_e1S, a_eIf, a_eTr, a_eAnd1, a_eAnd2, a_tNot, a_tAnd0, a_tAnd1, a_tOr0, a_tOr1, a_tOf, a_tCmp2, a_tCmp3, a_eMeth, a_eO0, a_eO1, a_eCut, a_callF, a_callB, a_methF, ls1, ls2, ls3, ls4, a_bind, S_inj, String.reduceEq, reduceIte, a_fin1, a_fin2, a_fin3, Bool.not_true, Bool.not_false, a_trB, a_lt, a_le, a_gt, a_ge, a_eq, a_ne, a_add, a_sub, a_neg, a_mod, a_inW, a_niW, a_niD, decide_true, decide_false, nT2, nT3, nL0, nL1, a_eqB, a_eqS, a_neS, h1, lt]
  | succ q ih =>
    intro t m ls hp v hm h1 h2 h3
    obtain ⟨m, rfl⟩ : ∃ m', m = m' + 1 := ⟨m - 1, by omega⟩
    have lt : ((0 : Int) < ((q + 1 : Nat) : Int)) := by omega
    have tn : ¬ ((10 : Int) = 0) := by decide
    by_cases g : t.fmod 10 = 0
    · rw [nrm, if_pos g]
      have pq : ((q + 1 : Nat) : Int) - 1 = (q : Int) := by omega
      obtain ⟨ls', x1, x2⟩ := ih (t.fdiv 10) m (bind1 (S "places") (.int (q : Int)) (bind1 (S "top") (.int (t.fdiv 10)) ls)) hp v (by omega) (by simp only [a_bind, reduceIte]) (by simp only [a_bind, S_inj, String.reduceEq, reduceIte]) (by simp only [a_bind, S_inj, String.reduceEq, reduceIte, h3])
      refine ⟨ls', (w_step (h1 := hp) ?_ ?_).trans x1, x2⟩
      · simp only [a_sAll0, a_sExpr, a_sAsg, a_sIf, a_sRet, a_sCont, a_sOne, a_eV, a_eLoc, a_e1, a_e2, a_eAll0, a_eAll1, a_eS, a_e1S, a_eIf, a_eTr, a_eAnd1, a_eAnd2, a_tNot, a_tAnd0, a_tAnd1, a_tOr0, a_tOr1, a_tOf, a_tCmp2, a_tCmp3, a_eMeth, a_eO0, a_eO1, a_eCut, a_callF, a_callB, a_methF, ls1, ls2, ls3, ls4, a_bind, S_inj, String.reduceEq, reduceIte, a_fin1, a_fin2, a_fin3, Bool.not_true, Bool.not_false, a_trB, a_lt, a_le, a_gt, a_ge, a_eq, a_ne, a_add, a_sub, a_neg, a_mod, a_inW, a_niW, a_niD, decide_true, decide_false, nT2, nT3, nL0, nL1, a_eqB, a_eqS, a_neS, h1, h2, lt, tn, g]
      · have nb : ¬ ((10 : Int) = 0 ∨ 1000000 ≤ (10 : Int).natAbs) := by decide
        simp only [a_sAll0, a_sExpr, a_sAsg, a_sIf, a_sRet, a_sCont, a_sOne, a_eV, a_eLoc, a_e1, a_e2, a_eAll0, a_eAll1, a_eS, a_e1S, a_eIf, a_eTr, a_eAnd1, a_eAnd2, a_tNot, a_tAnd0, a_tAnd1, a_tOr0, a_tOr1, a_tOf, a_tCmp2, a_tCmp3, a_eMeth, a_eO0, a_eO1, a_eCut, a_callF, a_callB, a_methF, ls1, ls2, ls3, ls4, a_bind, S_inj, String.reduceEq, reduceIte, a_fin1, a_fin2, a_fin3, Bool.not_true, Bool.not_false, a_trB, a_lt, a_le, a_gt, a_ge, a_eq, a_ne, a_add, a_sub, a_neg, a_mod, a_inW, a_niW, a_niD, decide_true, decide_false, nT2, nT3, nL0, nL1, a_eqB, a_eqS, a_neS, h1, h2, a_fdiv, nb, pq]
    · rw [nrm, if_neg g]
      refine ⟨ls, w_stop ?_, h1, h2, h3⟩
      simp only [a_sAll0, a_sExpr, a_sAsg, a_sIf, a_sRet, a_sCont, a_sOne, a_eV, a_eLoc, a_e1, a_e2, a_eAll0, a_eAll1, a_eS, a_e1S, a_eIf, a_eTr, a_eAnd1, a_eAnd2, a_tNot, a_tAnd0, a_tAnd1, a_tOr0, a_tOr1, a_tOf, a_tCmp2, a_tCmp3, a_eMeth, a_eO0, a_eO1, a_eCut, a_callF, a_callB, a_methF, ls1, ls2, ls3, ls4, a_bind, S_inj, String.reduceEq, reduceIte, a_fin1, a_fin2, a_fin3, Bool.not_true, Bool.not_false, a_trB, a_lt, a_le, a_gt, a_ge, a_eq, a_ne, a_add, a_sub, a_neg, a_mod, a_inW, a_niW, a_niD, decide_true, decide_false, nT2, nT3, nL0, nL1, a_eqB, a_eqS, a_neS, h1, h2, lt, tn, g]
noncomputable def dcm (t : Int) (p : Nat) : O := .inst 285 [(S "top", .int t), (S "places", .int (p : Int))]
theorem sp_285 {t : Int} {q : Nat} {hp : Hp} (hq : q < n) : orc n sc (k + 2) 285 [.int t, .int (q : Int)] hp = some (.ref hp.length, hp ++ [dcm (nrm q t).1 (nrm q t).2]) := by
  refine orc_class (fI := 205) rfl rfl ?_
  rw [orc_def rfl rfl rfl (den_205 ..)]
  obtain ⟨ls', x1, x2, x3, x4⟩ := loop_205 q t n (lsOf [(Str.ofString "self", .ref hp.length), (Str.ofString "top", .int t), (Str.ofString "places", .int (q : Int))]) (hp ++ [.inst 285 []]) (.ref hp.length) hq (by rw [ls3]; simp only [S_inj, String.reduceEq, reduceIte]) (by rw [ls3]; simp only [S_inj, String.reduceEq, reduceIte]) (by rw [ls3]; simp only [S_inj, String.reduceEq, reduceIte])
  unfold body_205
  rw [a_sWhile _ _ _ _ _ _ _ _ x1,
    put_p (fs' := [(S "top", .int (nrm q t).1)]) (.int (nrm q t).1) (new_at hp _) rfl ok_t (Nat.zero_le _) (by simp only [a_eLoc, x3]) (by simp only [a_eLoc, x4]),
    put_p (fs' := [(S "top", .int (nrm q t).1), (S "places", .int ((nrm q t).2 : Int))]) (.int ((nrm q t).2 : Int)) (set_at (new_at hp _)) (by simp only [fput, S_inj, String.reduceEq, reduceIte]) ok_p (by simp only [List.length_cons, List.length_nil, Nat.reduceAdd, Nat.reduceLeDiff]) (by simp only [a_eLoc, x2]) (by simp only [a_eLoc, x4]),
    set_new, set_new, a_sAll0, a_fin2]
  rfl
theorem sp_268 {t : Int} {p : Nat} {hp : Hp} {c : Nat} (h : hp[c]? = some (dcm t p)) : orc n sc (k + 1) 268 [.ref c] hp = some (.ref hp.length, hp ++ [.tuple [.int t, .int (p : Int)]]) := by
  rw [orc_def rfl rfl rfl (den_268 ..)]
  have a1 : attrV (S "top") (.ref c) hp = some (.int t, hp) := by
    unfold attrV dcm at *
    dsimp only
    rw [h]
    simp only [ok_t, fget, S_inj, String.reduceEq, reduceIte]
  have a2 : attrV (S "places") (.ref c) hp = some (.int (p : Int), hp) := by
    unfold attrV dcm at *
    dsimp only
    rw [h]
    simp only [ok_p, fget, S_inj, String.reduceEq, reduceIte]
  simp only [body_268, a_sAll0, a_sExpr, a_sAsg, a_sIf, a_sRet, a_sCont, a_sOne, a_eV, a_eLoc, a_e1, a_e2, a_eAll0, a_eAll1, a_eS, a_e1S, a_eIf, a_eTr, a_eAnd1, a_eAnd2, a_tNot, a_tAnd0, a_tAnd1, a_tOr0, a_tOr1, a_tOf, a_tCmp2, a_tCmp3, a_eMeth, a_eO0, a_eO1, a_eCut, a_callF, a_callB, a_methF, ls1, ls2, ls3, ls4, a_bind, S_inj, String.reduceEq, reduceIte, a_fin1, a_fin2, a_fin3, Bool.not_true, Bool.not_false, a_trB, a_lt, a_le, a_gt, a_ge, a_eq, a_ne, a_add, a_sub, a_neg, a_mod, a_inW, a_niW, a_niD, decide_true, decide_false, nT2, nT3, nL0, nL1, a_eqB, a_eqS, a_neS, a1, a2]
theorem me_told {t : Int} {p : Nat} {hp : Hp} {c : Nat} (h : hp[c]? = some (dcm t p)) : methR (S "told") (.ref c) hp = some (.fn 268) := by
  unfold methR dcm at *
  dsimp only
  rw [h]
  simp only [mt_told, fget, S_inj, String.reduceEq, reduceIte]
end
end Mine

open PySem PySem.W PyProof.Rows PySem.Calls
set_option Elab.async false
set_option maxRecDepth 100000
set_option maxHeartbeats 1000000
set_option linter.all false
namespace Mine
theorem t_step {bd : V → Ls → Hp → Option Ls} {b : Ex} {v : V} {vs : List V} {ls l1 l2 : Ls} {hp h2 : Hp} (h : bd v ls hp = some l1) (g : b l1 hp = some (.next, l2, h2)) : sTurns (fun _ => True) bd b (v :: vs) ls hp = sTurns (fun _ => True) bd b vs l2 h2 := by
  rw [sTurns]
  dsimp only
  rw [if_pos trivial, h]
  dsimp only
  rw [g]
theorem t_ret {bd : V → Ls → Hp → Option Ls} {b : Ex} {v u : V} {vs : List V} {ls l1 l2 : Ls} {hp h2 : Hp} (h : bd v ls hp = some l1) (g : b l1 hp = some (.ret u, l2, h2)) : sTurns (fun _ => True) bd b (v :: vs) ls hp = some (.ret u, l2, h2) := by
  rw [sTurns]
  dsimp only
  rw [if_pos trivial, h]
  dsimp only
  rw [g]
theorem t_nil {bd : V → Ls → Hp → Option Ls} {b : Ex} {ls : Ls} {hp : Hp} : sTurns (fun _ => True) bd b [] ls hp = some (.next, ls, hp) := by
  rw [sTurns]
  dsimp only
  rw [if_pos trivial]
theorem a_sForB {x : Str} {e : Ev} {b : Ex} {ls : Ls} {hp h1 : Hp} {d : List UInt8} (h : e ls hp = some (.bytes d, h1)) (hl : d.length ≤ 1000000) (es : List Ex) : sAll (sForB x e b :: es) ls hp = andThen es (sTurns (fun _ => True) (bdName x) b (d.map fun c => .int c.toNat) ls h1) := by
  show (match sForB x e b ls hp with | some (.next, l1, h1) => sAll es l1 h1 | r => r) = _
  unfold sForB
  rw [h]
  dsimp only
  rw [if_pos hl]
  generalize sTurns (fun _ => True) (bdName x) b (d.map fun c => .int c.toNat) ls h1 = r
  rcases r with _ | ⟨f, x, y⟩
  · rfl
  · cases f <;> rfl
noncomputable def rdGo : List UInt8 → Int → Int → Int → Option (Int × Int × Int)
  | [], t, m, p => some (t, m, p)
  | x :: y, t, m, p => if (x.toNat : Int) = 46 ∧ p < 0 then rdGo y t m 0 else if 48 ≤ (x.toNat : Int) ∧ (x.toNat : Int) ≤ 57 then rdGo y (10 * t + (x.toNat : Int) - 48) (m + 1) (if 0 ≤ p then p + 1 else p) else none
inductive Rd where
  | no
  | int (i : Int)
  | real (t : Int) (p : Nat)
noncomputable def rdEnd (neg : Bool) (s : Int × Int × Int) : Rd := if s.2.1 = 0 ∨ 40 < s.2.1 then .no else if s.2.2 < 0 then .int (if neg then -s.1 else s.1) else .real (nrm s.2.2.toNat (if neg then -s.1 else s.1)).1 (nrm s.2.2.toNat (if neg then -s.1 else s.1)).2
noncomputable def rdOf (neg : Bool) : Option (Int × Int × Int) → Rd
  | none => .no
  | some s => rdEnd neg s
noncomputable def rd (x : UInt8) (ys : List UInt8) : Rd := rdOf (decide (x = 45)) (rdGo (if x = 43 ∨ x = 45 then ys else x :: ys) 0 0 (-1))
/-- the read number's value -/
def RdAt : Rd → V → Hp → Hp → Prop
  | .no, v, hp, hp' => v = .none ∧ hp' = hp
  | .int i, v, hp, hp' => v = .int i ∧ hp' = hp
  | .real t p, v, hp, hp' => v = .ref hp.length ∧ hp' = hp ++ [dcm t p]
section
variable {n : Nat} {sc : Addr × List Int} {k : Nat} {C : Orc}
theorem mulOk {t : Int} {l : Nat} (h : (t.natAbs + 1) * 16 ^ l ≤ 2 ^ 400) : ((10 : Int).natAbs < 2 ^ 60 ∧ t.natAbs < 2 ^ 4000) = True := by
  refine eq_true ⟨by decide, ?_⟩
  have h1 : 1 ≤ 16 ^ l := Nat.one_le_pow _ _ (by decide)
  have h2 : t.natAbs + 1 ≤ (t.natAbs + 1) * 16 ^ l := Nat.le_mul_of_pos_right _ h1
  have h3 : 2 ^ 400 < 2 ^ 4000 := Nat.pow_lt_pow_right (by decide) (by decide)
  exact Nat.lt_trans (Nat.lt_of_lt_of_le (Nat.lt_succ_self _) (Nat.le_trans h2 h)) h3
theorem mulNx {t x : Int} {l : Nat} (h : (t.natAbs + 1) * 16 ^ (l + 1) ≤ 2 ^ 400) (h1 : 48 ≤ x) (h2 : x ≤ 57) : ((10 * t + x - 48).natAbs + 1) * 16 ^ l ≤ 2 ^ 400 := by
  refine Nat.le_trans ?_ h
  rw [Nat.pow_succ, Nat.mul_comm (16 ^ l) 16, ← Nat.mul_assoc]
  exact Nat.mul_le_mul_right _ (by omega)
theorem loop_303 : ∀ (y : List UInt8) (t m p : Int) (B : Nat) (o : V) (ls : Ls) (hp : Hp), (t.natAbs + 1) * 16 ^ y.length ≤ 2 ^ 400 → p ≤ (B : Int) → ls (S "top") = some (.int t) → ls (S "numerals") = some (.int m) → ls (S "places") = some (.int p) → ls (S "octets") = some o →
    match rdGo y t m p with
    | none => ∃ ls', sTurns (fun _ => True) (bdName (S "code")) (sAll [(sIf (tAnd [(tCmp2 (cmpV .Eq) (eLoc (S "code")) (eV (.int 46))), (tCmp2 (cmpV .Lt) (eLoc (S "places")) (eV (.int 0)))]) (sAll [(sAsg (S "places") (eV (.int 0)))]) (sAll [(sIf (tCmp3 (cmpV .LtE) (cmpV .LtE) (eV (.int 48)) (eLoc (S "code")) (e2 (binV .Add) (eV (.int 48)) (eV (.int 9)))) (sAll [(sAsg (S "top") (e2 (binV .Sub) (e2 (binV .Add) (e2 (binV .Mult) (eV (.int 10)) (eLoc (S "top"))) (eLoc (S "code"))) (eV (.int 48)))), (sAsg (S "numerals") (e2 (binV .Add) (eLoc (S "numerals")) (eV (.int 1)))), (sIf (tCmp2 (cmpV .GtE) (eLoc (S "places")) (eV (.int 0))) (sAll [(sAsg (S "places") (e2 (binV .Add) (eLoc (S "places")) (eV (.int 1))))]) (sAll []))]) (sAll [(sRet (eV .none))]))]))]) (y.map fun c => .int c.toNat) ls hp = some (.ret .none, ls', hp)
    | some s => ∃ ls', sTurns (fun _ => True) (bdName (S "code")) (sAll [(sIf (tAnd [(tCmp2 (cmpV .Eq) (eLoc (S "code")) (eV (.int 46))), (tCmp2 (cmpV .Lt) (eLoc (S "places")) (eV (.int 0)))]) (sAll [(sAsg (S "places") (eV (.int 0)))]) (sAll [(sIf (tCmp3 (cmpV .LtE) (cmpV .LtE) (eV (.int 48)) (eLoc (S "code")) (e2 (binV .Add) (eV (.int 48)) (eV (.int 9)))) (sAll [(sAsg (S "top") (e2 (binV .Sub) (e2 (binV .Add) (e2 (binV .Mult) (eV (.int 10)) (eLoc (S "top"))) (eLoc (S "code"))) (eV (.int 48)))), (sAsg (S "numerals") (e2 (binV .Add) (eLoc (S "numerals")) (eV (.int 1)))), (sIf (tCmp2 (cmpV .GtE) (eLoc (S "places")) (eV (.int 0))) (sAll [(sAsg (S "places") (e2 (binV .Add) (eLoc (S "places")) (eV (.int 1))))]) (sAll []))]) (sAll [(sRet (eV .none))]))]))]) (y.map fun c => .int c.toNat) ls hp = some (.next, ls', hp) ∧ s.2.2 ≤ (B + y.length : Nat) ∧ ls' (S "top") = some (.int s.1) ∧ ls' (S "numerals") = some (.int s.2.1) ∧ ls' (S "places") = some (.int s.2.2) ∧ ls' (S "octets") = some o := by
  intro y
  induction y with
  | nil =>
    intro t m p B o ls hp _ hB h1 h2 h3 h4
    exact ⟨ls, t_nil, hB, h1, h2, h3, h4⟩
  | cons x y ih =>
    intro t m p B o ls hp hb hB h1 h2 h3 h4
    rw [rdGo, List.map_cons]
    have s1 := mulOk hb
    have s2 : (48 : Int) + 9 = 57 := rfl
    by_cases g : (x.toNat : Int) = 46 ∧ p < 0
    · rw [if_pos g]
      have st : ∀ vs, sTurns (fun _ => True) (bdName (S "code")) (sAll [(sIf (tAnd [(tCmp2 (cmpV .Eq) (eLoc (S "code")) (eV (.int 46))), (tCmp2 (cmpV .Lt) (eLoc (S "places")) (eV (.int 0)))]) (sAll [(sAsg (S "places") (eV (.int 0)))]) (sAll [(sIf (tCmp3 (cmpV .LtE) (cmpV .LtE) (eV (.int 48)) (eLoc (S "code")) (e2 (binV .Add) (eV (.int 48)) (eV (.int 9)))) (sAll [(sAsg (S "top") (e2 (binV .Sub) (e2 (binV .Add) (e2 (binV .Mult) (eV (.int 10)) (eLoc (S "top"))) (eLoc (S "code"))) (eV (.int 48)))), (sAsg (S "numerals") (e2 (binV .Add) (eLoc (S "numerals")) (eV (.int 1)))), (sIf (tCmp2 (cmpV .GtE) (eLoc (S "places")) (eV (.int 0))) (sAll [(sAsg (S "places") (e2 (binV .Add) (eLoc (S "places")) (eV (.int 1))))]) (sAll []))]) (sAll [(sRet (eV .none))]))]))]) (.int x.toNat :: vs) ls hp = sTurns (fun _ => True) (bdName (S "code")) (sAll [(sIf (tAnd [(tCmp2 (cmpV .Eq) (eLoc (S "code")) (eV (.int 46))), (tCmp2 (cmpV .Lt) (eLoc (S "places")) (eV (.int 0)))]) (sAll [(sAsg (S "places") (eV (.int 0)))]) (sAll [(sIf (tCmp3 (cmpV .LtE) (cmpV .LtE) (eV (.int 48)) (eLoc (S "code")) (e2 (binV .Add) (eV (.int 48)) (eV (.int 9)))) (sAll [(sAsg (S "top") (e2 (binV .Sub) (e2 (binV .Add) (e2 (binV .Mult) (eV (.int 10)) (eLoc (S "top"))) (eLoc (S "code"))) (eV (.int 48)))), (sAsg (S "numerals") (e2 (binV .Add) (eLoc (S "numerals")) (eV (.int 1)))), (sIf (tCmp2 (cmpV .GtE) (eLoc (S "places")) (eV (.int 0))) (sAll [(sAsg (S "places") (e2 (binV .Add) (eLoc (S "places")) (eV (.int 1))))]) (sAll []))]) (sAll [(sRet (eV .none))]))]))]) vs (bind1 (S "places") (.int 0) (bind1 (S "code") (.int x.toNat) ls)) hp := fun vs => t_step rfl (by
        simp only [a_sIf, a_sAll0, a_sExpr, a_sAsg, a_sIf, a_sRet, a_sCont, a_sOne, a_eV, a_eLoc, a_e1, a_e2, a_eAll0, a_eAll1, a_eS, a_e1S, a_eIf, a_eTr, a_eAnd1, a_eAnd2, a_tNot, a_tAnd0, a_tAnd1, a_tOr0, a_tOr1, a_tOf, a_tCmp2, a_tCmp3, a_eMeth, a_eO0, a_eO1, a_eCut, a_callF, a_callB, a_methF, ls1, ls2, ls3, ls4, a_bind, S_inj, String.reduceEq, reduceIte, a_fin1, a_fin2, a_fin3, Bool.not_true, Bool.not_false, a_trB, a_lt, a_le, a_gt, a_ge, a_eq, a_ne, a_add, a_sub, a_neg, a_mod, a_inW, a_niW, a_niD, decide_true, decide_false, nT2, nT3, nL0, nL1, a_eqB, a_eqS, a_neS, h3, g.1, g.2, a_then0])
      rw [st]
      have hb' : (t.natAbs + 1) * 16 ^ y.length ≤ 2 ^ 400 := Nat.le_trans (Nat.mul_le_mul_left _ (Nat.pow_le_pow_right (by decide) (Nat.le_succ _))) hb
      have := ih t m 0 B o (bind1 (S "places") (.int 0) (bind1 (S "code") (.int x.toNat) ls)) hp hb' (Int.natCast_nonneg _) (by simp only [a_bind, S_inj, String.reduceEq, reduceIte, h1]) (by simp only [a_bind, S_inj, String.reduceEq, reduceIte, h2]) (by simp only [a_bind, S_inj, String.reduceEq, reduceIte]) (by simp only [a_bind, S_inj, String.reduceEq, reduceIte, h4])
      revert this
      cases rdGo y t m 0 with
      | none => exact id
      | some s => exact fun ⟨l, a, b, r⟩ => ⟨l, a, by rw [List.length_cons]; omega, r⟩
    · rw [if_neg g]
      by_cases g1 : 48 ≤ (x.toNat : Int) ∧ (x.toNat : Int) ≤ 57
      · rw [if_pos g1]
        have ne : ¬ ((x.toNat : Int) = 46) := by omega
        have st : ∀ vs, sTurns (fun _ => True) (bdName (S "code")) (sAll [(sIf (tAnd [(tCmp2 (cmpV .Eq) (eLoc (S "code")) (eV (.int 46))), (tCmp2 (cmpV .Lt) (eLoc (S "places")) (eV (.int 0)))]) (sAll [(sAsg (S "places") (eV (.int 0)))]) (sAll [(sIf (tCmp3 (cmpV .LtE) (cmpV .LtE) (eV (.int 48)) (eLoc (S "code")) (e2 (binV .Add) (eV (.int 48)) (eV (.int 9)))) (sAll [(sAsg (S "top") (e2 (binV .Sub) (e2 (binV .Add) (e2 (binV .Mult) (eV (.int 10)) (eLoc (S "top"))) (eLoc (S "code"))) (eV (.int 48)))), (sAsg (S "numerals") (e2 (binV .Add) (eLoc (S "numerals")) (eV (.int 1)))), (sIf (tCmp2 (cmpV .GtE) (eLoc (S "places")) (eV (.int 0))) (sAll [(sAsg (S "places") (e2 (binV .Add) (eLoc (S "places")) (eV (.int 1))))]) (sAll []))]) (sAll [(sRet (eV .none))]))]))]) (.int x.toNat :: vs) ls hp = sTurns (fun _ => True) (bdName (S "code")) (sAll [(sIf (tAnd [(tCmp2 (cmpV .Eq) (eLoc (S "code")) (eV (.int 46))), (tCmp2 (cmpV .Lt) (eLoc (S "places")) (eV (.int 0)))]) (sAll [(sAsg (S "places") (eV (.int 0)))]) (sAll [(sIf (tCmp3 (cmpV .LtE) (cmpV .LtE) (eV (.int 48)) (eLoc (S "code")) (e2 (binV .Add) (eV (.int 48)) (eV (.int 9)))) (sAll [(sAsg (S "top") (e2 (binV .Sub) (e2 (binV .Add) (e2 (binV .Mult) (eV (.int 10)) (eLoc (S "top"))) (eLoc (S "code"))) (eV (.int 48)))), (sAsg (S "numerals") (e2 (binV .Add) (eLoc (S "numerals")) (eV (.int 1)))), (sIf (tCmp2 (cmpV .GtE) (eLoc (S "places")) (eV (.int 0))) (sAll [(sAsg (S "places") (e2 (binV .Add) (eLoc (S "places")) (eV (.int 1))))]) (sAll []))]) (sAll [(sRet (eV .none))]))]))]) vs (bind1 (S "places") (.int (if 0 ≤ p then p + 1 else p)) (bind1 (S "numerals") (.int (m + 1)) (bind1 (S "top") (.int (10 * t + (x.toNat : Int) - 48)) (bind1 (S "code") (.int x.toNat) ls)))) hp := fun vs => by
          by_cases g2 : 0 ≤ p
          · refine t_step rfl ?_
            simp only [a_sIf, a_sAll0, a_sExpr, a_sAsg, a_sIf, a_sRet, a_sCont, a_sOne, a_eV, a_eLoc, a_e1, a_e2, a_eAll0, a_eAll1, a_eS, a_e1S, a_eIf, a_eTr, a_eAnd1, a_eAnd2, a_tNot, a_tAnd0, a_tAnd1, a_tOr0, a_tOr1, a_tOf, a_tCmp2, a_tCmp3, a_eMeth, a_eO0, a_eO1, a_eCut, a_callF, a_callB, a_methF, ls1, ls2, ls3, ls4, a_bind, S_inj, String.reduceEq, reduceIte, a_fin1, a_fin2, a_fin3, Bool.not_true, Bool.not_false, a_trB, a_lt, a_le, a_gt, a_ge, a_eq, a_ne, a_add, a_sub, a_neg, a_mod, a_inW, a_niW, a_niD, decide_true, decide_false, nT2, nT3, nL0, nL1, a_eqB, a_eqS, a_neS, h1, h2, h3, ne, g1.1, g1.2, g2, a_mul, s1, s2, a_then0]
          · rw [if_neg g2]
            have eb : bind1 (S "places") (.int p) (bind1 (S "numerals") (.int (m + 1)) (bind1 (S "top") (.int (10 * t + (x.toNat : Int) - 48)) (bind1 (S "code") (.int x.toNat) ls))) = bind1 (S "numerals") (.int (m + 1)) (bind1 (S "top") (.int (10 * t + (x.toNat : Int) - 48)) (bind1 (S "code") (.int x.toNat) ls)) := by
              funext q
              by_cases e : q = S "places"
              · subst e
                simp only [a_bind, S_inj, String.reduceEq, reduceIte, h3]
              · show (if q = S "places" then _ else _) = _
                rw [if_neg e]
            rw [eb]
            refine t_step rfl ?_
            simp only [a_sIf, a_sAll0, a_sExpr, a_sAsg, a_sIf, a_sRet, a_sCont, a_sOne, a_eV, a_eLoc, a_e1, a_e2, a_eAll0, a_eAll1, a_eS, a_e1S, a_eIf, a_eTr, a_eAnd1, a_eAnd2, a_tNot, a_tAnd0, a_tAnd1, a_tOr0, a_tOr1, a_tOf, a_tCmp2, a_tCmp3, a_eMeth, a_eO0, a_eO1, a_eCut, a_callF, a_callB, a_methF, ls1, ls2, ls3, ls4, a_bind, S_inj, String.reduceEq, reduceIte, a_fin1, a_fin2, a_fin3, Bool.not_true, Bool.not_false, a_trB, a_lt, a_le, a_gt, a_ge, a_eq, a_ne, a_add, a_sub, a_neg, a_mod, a_inW, a_niW, a_niD, decide_true, decide_false, nT2, nT3, nL0, nL1, a_eqB, a_eqS, a_neS, h1, h2, h3, ne, g1.1, g1.2, g2, a_mul, s1, s2, a_then0]
        rw [st]
        have := ih (10 * t + (x.toNat : Int) - 48) (m + 1) (if 0 ≤ p then p + 1 else p) (B + 1) o (bind1 (S "places") (.int (if 0 ≤ p then p + 1 else p)) (bind1 (S "numerals") (.int (m + 1)) (bind1 (S "top") (.int (10 * t + (x.toNat : Int) - 48)) (bind1 (S "code") (.int x.toNat) ls)))) hp (mulNx hb g1.1 g1.2) (by split <;> omega) (by simp only [a_bind, S_inj, String.reduceEq, reduceIte]) (by simp only [a_bind, S_inj, String.reduceEq, reduceIte]) (by simp only [a_bind, S_inj, String.reduceEq, reduceIte]) (by simp only [a_bind, S_inj, String.reduceEq, reduceIte, h4])
        revert this
        cases rdGo y (10 * t + (x.toNat : Int) - 48) (m + 1) (if 0 ≤ p then p + 1 else p) with
        | none => exact id
        | some s => exact fun ⟨l, a, b, r⟩ => ⟨l, a, by rw [List.length_cons]; omega, r⟩
      · rw [if_neg g1]
        refine ⟨bind1 (S "code") (.int x.toNat) ls, t_ret rfl ?_⟩
        by_cases ne : (x.toNat : Int) = 46
        · have np : ¬ p < 0 := fun q => g ⟨ne, q⟩
          have n1 : ¬ ((48 : Int) ≤ 46) := by decide
          simp only [a_sIf, a_sAll0, a_sExpr, a_sAsg, a_sIf, a_sRet, a_sCont, a_sOne, a_eV, a_eLoc, a_e1, a_e2, a_eAll0, a_eAll1, a_eS, a_e1S, a_eIf, a_eTr, a_eAnd1, a_eAnd2, a_tNot, a_tAnd0, a_tAnd1, a_tOr0, a_tOr1, a_tOf, a_tCmp2, a_tCmp3, a_eMeth, a_eO0, a_eO1, a_eCut, a_callF, a_callB, a_methF, ls1, ls2, ls3, ls4, a_bind, S_inj, String.reduceEq, reduceIte, a_fin1, a_fin2, a_fin3, Bool.not_true, Bool.not_false, a_trB, a_lt, a_le, a_gt, a_ge, a_eq, a_ne, a_add, a_sub, a_neg, a_mod, a_inW, a_niW, a_niD, decide_true, decide_false, nT2, nT3, nL0, nL1, a_eqB, a_eqS, a_neS, h1, h2, h3, ne, np, n1, a_then0, a_then1]
        · by_cases n1 : (48 : Int) ≤ (x.toNat : Int)
          · have n2 : ¬ ((x.toNat : Int) ≤ 57) := fun q => g1 ⟨n1, q⟩
            simp only [a_sIf, a_sAll0, a_sExpr, a_sAsg, a_sIf, a_sRet, a_sCont, a_sOne, a_eV, a_eLoc, a_e1, a_e2, a_eAll0, a_eAll1, a_eS, a_e1S, a_eIf, a_eTr, a_eAnd1, a_eAnd2, a_tNot, a_tAnd0, a_tAnd1, a_tOr0, a_tOr1, a_tOf, a_tCmp2, a_tCmp3, a_eMeth, a_eO0, a_eO1, a_eCut, a_callF, a_callB, a_methF, ls1, ls2, ls3, ls4, a_bind, S_inj, String.reduceEq, reduceIte, a_fin1, a_fin2, a_fin3, Bool.not_true, Bool.not_false, a_trB, a_lt, a_le, a_gt, a_ge, a_eq, a_ne, a_add, a_sub, a_neg, a_mod, a_inW, a_niW, a_niD, decide_true, decide_false, nT2, nT3, nL0, nL1, a_eqB, a_eqS, a_neS, h1, h2, h3, ne, n1, n2, s2, a_then0, a_then1]
          · simp only [a_sIf, a_sAll0, a_sExpr, a_sAsg, a_sIf, a_sRet, a_sCont, a_sOne, a_eV, a_eLoc, a_e1, a_e2, a_eAll0, a_eAll1, a_eS, a_e1S, a_eIf, a_eTr, a_eAnd1, a_eAnd2, a_tNot, a_tAnd0, a_tAnd1, a_tOr0, a_tOr1, a_tOf, a_tCmp2, a_tCmp3, a_eMeth, a_eO0, a_eO1, a_eCut, a_callF, a_callB, a_methF, ls1, ls2, ls3, ls4, a_bind, S_inj, String.reduceEq, reduceIte, a_fin1, a_fin2, a_fin3, Bool.not_true, Bool.not_false, a_trB, a_lt, a_le, a_gt, a_ge, a_eq, a_ne, a_add, a_sub, a_neg, a_mod, a_inW, a_niW, a_niD, decide_true, decide_false, nT2, nT3, nL0, nL1, a_eqB, a_eqS, a_neS, h1, h2, h3, ne, n1, a_then0, a_then1]
theorem cutB_from (sc : Addr × List Int) (hp : Hp) (d : List UInt8) {i : Nat} (h : d.length ≤ 10000) (hi : i ≤ 10000) : cutV sc (.bytes d) (some (.int (i : Int))) none hp = some (.bytes (d.drop i), hp) := by
  rw [cutB, lowOf_at (by omega)]
  show (if d.length ≤ 1000000 then some (V.bytes ((d.take d.length).drop i), hp) else none) = _
  rw [if_pos (by omega), List.take_length]
theorem a_isn (hp : Hp) : cmpV .Is .none .none hp = some true := rfl
theorem rest_303 {x : UInt8} {ys z : List UInt8} {b : Nat} {L : Ls} {hp : Hp} (h1 : L (S "octets") = some (.bytes (x :: ys))) (h2 : L (S "begun") = some (.int (b : Int))) (hb : b ≤ 1) (hz : (x :: ys).drop b = z) (h3 : L (S "top") = some (.int 0)) (h4 : L (S "numerals") = some (.int 0)) (h5 : L (S "places") = some (.int (-1))) (hl : (x :: ys).length ≤ 60) (hn : 100 ≤ n) (i0 : ∀ hp : Hp, idxV (.bytes (x :: ys)) (.int 0) hp = some (.int (x.toNat : Int), hp)) :
    ∃ v hp', fin (sAll ((body_303 (orc n sc (k + 2)) n sc).drop 5) L hp) = some (v, hp') ∧ RdAt (rdOf (decide (x = 45)) (rdGo z 0 0 (-1))) v hp hp' := by
  have zl : z.length ≤ 60 := by rw [← hz, List.length_drop]; omega
  have cu : eCut sc (eLoc (S "octets")) (some (eLoc (S "begun"))) none L hp = some (.bytes z, hp) := by
    simp only [a_sAll0, a_sExpr, a_sAsg, a_sIf, a_sRet, a_sCont, a_sOne, a_eV, a_eLoc, a_e1, a_e2, a_eAll0, a_eAll1, a_eS, a_e1S, a_eIf, a_eTr, a_eAnd1, a_eAnd2, a_tNot, a_tAnd0, a_tAnd1, a_tOr0, a_tOr1, a_tOf, a_tCmp2, a_tCmp3, a_eMeth, a_eO0, a_eO1, a_eCut, a_callF, a_callB, a_methF, ls1, ls2, ls3, ls4, a_bind, S_inj, String.reduceEq, reduceIte, a_fin1, a_fin2, a_fin3, Bool.not_true, Bool.not_false, a_trB, a_lt, a_le, a_gt, a_ge, a_eq, a_ne, a_add, a_sub, a_neg, a_mod, a_inW, a_niW, a_niD, decide_true, decide_false, nT2, nT3, nL0, nL1, a_eqB, a_eqS, a_neS, h1, h2, cutB_from sc hp (x :: ys) (i := b) (by omega) (by omega), hz]
  have lp := loop_303 z 0 0 (-1) 0 (.bytes (x :: ys)) L hp (by
    rw [show (0 : Int).natAbs + 1 = 1 from rfl, Nat.one_mul, show (16 : Nat) = 2 ^ 4 from rfl, ← Nat.pow_mul]
    exact Nat.pow_le_pow_right (by decide) (by omega)) (by omega) h3 h4 h5 h1
  have hd : ∀ es, sAll (sForB (S "code") (eCut sc (eLoc (S "octets")) (some (eLoc (S "begun"))) none) (sAll [(sIf (tAnd [(tCmp2 (cmpV .Eq) (eLoc (S "code")) (eV (.int 46))), (tCmp2 (cmpV .Lt) (eLoc (S "places")) (eV (.int 0)))]) (sAll [(sAsg (S "places") (eV (.int 0)))]) (sAll [(sIf (tCmp3 (cmpV .LtE) (cmpV .LtE) (eV (.int 48)) (eLoc (S "code")) (e2 (binV .Add) (eV (.int 48)) (eV (.int 9)))) (sAll [(sAsg (S "top") (e2 (binV .Sub) (e2 (binV .Add) (e2 (binV .Mult) (eV (.int 10)) (eLoc (S "top"))) (eLoc (S "code"))) (eV (.int 48)))), (sAsg (S "numerals") (e2 (binV .Add) (eLoc (S "numerals")) (eV (.int 1)))), (sIf (tCmp2 (cmpV .GtE) (eLoc (S "places")) (eV (.int 0))) (sAll [(sAsg (S "places") (e2 (binV .Add) (eLoc (S "places")) (eV (.int 1))))]) (sAll []))]) (sAll [(sRet (eV .none))]))]))]) :: es) L hp = _ := fun es => a_sForB cu (by omega) es
  show ∃ v hp', fin (sAll (sForB (S "code") (eCut sc (eLoc (S "octets")) (some (eLoc (S "begun"))) none) _ :: (body_303 (orc n sc (k + 2)) n sc).drop 6) L hp) = some (v, hp') ∧ RdAt (rdOf (decide (x = 45)) (rdGo z 0 0 (-1))) v hp hp'
  rw [hd]
  revert lp
  generalize rdGo z 0 0 (-1) = r
  cases r with
  | none =>
    rintro ⟨ls', q⟩
    exact ⟨.none, hp, by rw [q]; rfl, rfl, rfl⟩
  | some s =>
    rintro ⟨ls', q, q1, q2, q3, q4, q5⟩
    rw [q, a_then0]
    show ∃ v hp', fin (sAll ((body_303 (orc n sc (k + 2)) n sc).drop 6) ls' hp) = some (v, hp') ∧ RdAt (rdEnd (decide (x = 45)) s) v hp hp'
    unfold rdEnd
    show ∃ v hp', fin (sAll (sIf (tOr [(tCmp2 (cmpV .Eq) (eLoc (S "numerals")) (eV (.int 0))), (tCmp2 (cmpV .Gt) (eLoc (S "numerals")) (eV (.int 40)))]) (sAll [(sRet (eV .none))]) (sAll []) :: (body_303 (orc n sc (k + 2)) n sc).drop 7) ls' hp) = some (v, hp') ∧ _
    by_cases g1 : s.2.1 = 0
    · rw [if_pos (.inl g1)]
      refine ⟨.none, hp, ?_, rfl, rfl⟩
      simp only [a_sIf, a_sAll0, a_sExpr, a_sAsg, a_sIf, a_sRet, a_sCont, a_sOne, a_eV, a_eLoc, a_e1, a_e2, a_eAll0, a_eAll1, a_eS, a_e1S, a_eIf, a_eTr, a_eAnd1, a_eAnd2, a_tNot, a_tAnd0, a_tAnd1, a_tOr0, a_tOr1, a_tOf, a_tCmp2, a_tCmp3, a_eMeth, a_eO0, a_eO1, a_eCut, a_callF, a_callB, a_methF, ls1, ls2, ls3, ls4, a_bind, S_inj, String.reduceEq, reduceIte, a_fin1, a_fin2, a_fin3, Bool.not_true, Bool.not_false, a_trB, a_lt, a_le, a_gt, a_ge, a_eq, a_ne, a_add, a_sub, a_neg, a_mod, a_inW, a_niW, a_niD, decide_true, decide_false, nT2, nT3, nL0, nL1, a_eqB, a_eqS, a_neS, q3, g1, a_then1]
    · by_cases g2 : 40 < s.2.1
      · rw [if_pos (.inr g2)]
        refine ⟨.none, hp, ?_, rfl, rfl⟩
        simp only [a_sIf, a_sAll0, a_sExpr, a_sAsg, a_sIf, a_sRet, a_sCont, a_sOne, a_eV, a_eLoc, a_e1, a_e2, a_eAll0, a_eAll1, a_eS, a_e1S, a_eIf, a_eTr, a_eAnd1, a_eAnd2, a_tNot, a_tAnd0, a_tAnd1, a_tOr0, a_tOr1, a_tOf, a_tCmp2, a_tCmp3, a_eMeth, a_eO0, a_eO1, a_eCut, a_callF, a_callB, a_methF, ls1, ls2, ls3, ls4, a_bind, S_inj, String.reduceEq, reduceIte, a_fin1, a_fin2, a_fin3, Bool.not_true, Bool.not_false, a_trB, a_lt, a_le, a_gt, a_ge, a_eq, a_ne, a_add, a_sub, a_neg, a_mod, a_inW, a_niW, a_niD, decide_true, decide_false, nT2, nT3, nL0, nL1, a_eqB, a_eqS, a_neS, q3, g1, g2, a_then1]
      · rw [if_neg (by rintro (a | a); exact g1 a; exact g2 a)]
        have st : fin (sAll (sIf (tOr [(tCmp2 (cmpV .Eq) (eLoc (S "numerals")) (eV (.int 0))), (tCmp2 (cmpV .Gt) (eLoc (S "numerals")) (eV (.int 40)))]) (sAll [(sRet (eV .none))]) (sAll []) :: (body_303 (orc n sc (k + 2)) n sc).drop 7) ls' hp) = fin (sAll ((body_303 (orc n sc (k + 2)) n sc).drop 7) ls' hp) := by
          simp only [a_sIf, a_sAll0, a_sExpr, a_sAsg, a_sIf, a_sRet, a_sCont, a_sOne, a_eV, a_eLoc, a_e1, a_e2, a_eAll0, a_eAll1, a_eS, a_e1S, a_eIf, a_eTr, a_eAnd1, a_eAnd2, a_tNot, a_tAnd0, a_tAnd1, a_tOr0, a_tOr1, a_tOf, a_tCmp2, a_tCmp3, a_eMeth, a_eO0, a_eO1, a_eCut, a_callF, a_callB, a_methF, ls1, ls2, ls3, ls4, a_bind, S_inj, String.reduceEq, reduceIte, a_fin1, a_fin2, a_fin3, Bool.not_true, Bool.not_false, a_trB, a_lt, a_le, a_gt, a_ge, a_eq, a_ne, a_add, a_sub, a_neg, a_mod, a_inW, a_niW, a_niD, decide_true, decide_false, nT2, nT3, nL0, nL1, a_eqB, a_eqS, a_neS, q3, g1, g2, a_then0]
        rw [st]
        show ∃ v hp', fin (sAll (sIf (tCmp2 (cmpV .Eq) (e2 idxV (eLoc (S "octets")) (eV (.int 0))) (eV (.int 45))) (sAll [(sAsg (S "top") (e1 negV (eLoc (S "top"))))]) (sAll []) :: (body_303 (orc n sc (k + 2)) n sc).drop 8) ls' hp) = some (v, hp') ∧ _
        have s2 : ∃ l2 : Ls, fin (sAll (sIf (tCmp2 (cmpV .Eq) (e2 idxV (eLoc (S "octets")) (eV (.int 0))) (eV (.int 45))) (sAll [(sAsg (S "top") (e1 negV (eLoc (S "top"))))]) (sAll []) :: (body_303 (orc n sc (k + 2)) n sc).drop 8) ls' hp) = fin (sAll ((body_303 (orc n sc (k + 2)) n sc).drop 8) l2 hp) ∧ l2 (S "top") = some (.int (if decide (x = 45) = true then -s.1 else s.1)) ∧ l2 (S "places") = some (.int s.2.2) := by
          by_cases g3 : x = 45
          · subst g3
            refine ⟨bind1 (S "top") (.int (-s.1)) ls', ?_, by simp only [a_bind, reduceIte, decide_true], by simp only [a_bind, S_inj, String.reduceEq, reduceIte, q4]⟩
            simp only [a_sIf, a_sAll0, a_sExpr, a_sAsg, a_sIf, a_sRet, a_sCont, a_sOne, a_eV, a_eLoc, a_e1, a_e2, a_eAll0, a_eAll1, a_eS, a_e1S, a_eIf, a_eTr, a_eAnd1, a_eAnd2, a_tNot, a_tAnd0, a_tAnd1, a_tOr0, a_tOr1, a_tOf, a_tCmp2, a_tCmp3, a_eMeth, a_eO0, a_eO1, a_eCut, a_callF, a_callB, a_methF, ls1, ls2, ls3, ls4, a_bind, S_inj, String.reduceEq, reduceIte, a_fin1, a_fin2, a_fin3, Bool.not_true, Bool.not_false, a_trB, a_lt, a_le, a_gt, a_ge, a_eq, a_ne, a_add, a_sub, a_neg, a_mod, a_inW, a_niW, a_niD, decide_true, decide_false, nT2, nT3, nL0, nL1, a_eqB, a_eqS, a_neS, q5, q2, i0, UInt8.reduceToNat, Int.cast_ofNat_Int, a_then0]
          · have e1 : ¬ ((x.toNat : Int) = 45) := fun q => g3 (UInt8.toNat_inj.mp (by show x.toNat = 45; omega))
            refine ⟨ls', ?_, by rw [decide_eq_false g3]; exact q2, q4⟩
            simp only [a_sIf, a_sAll0, a_sExpr, a_sAsg, a_sIf, a_sRet, a_sCont, a_sOne, a_eV, a_eLoc, a_e1, a_e2, a_eAll0, a_eAll1, a_eS, a_e1S, a_eIf, a_eTr, a_eAnd1, a_eAnd2, a_tNot, a_tAnd0, a_tAnd1, a_tOr0, a_tOr1, a_tOf, a_tCmp2, a_tCmp3, a_eMeth, a_eO0, a_eO1, a_eCut, a_callF, a_callB, a_methF, ls1, ls2, ls3, ls4, a_bind, S_inj, String.reduceEq, reduceIte, a_fin1, a_fin2, a_fin3, Bool.not_true, Bool.not_false, a_trB, a_lt, a_le, a_gt, a_ge, a_eq, a_ne, a_add, a_sub, a_neg, a_mod, a_inW, a_niW, a_niD, decide_true, decide_false, nT2, nT3, nL0, nL1, a_eqB, a_eqS, a_neS, q5, i0, e1, a_then0]
        obtain ⟨l2, s3, s4, s5⟩ := s2
        rw [s3]
        show ∃ v hp', fin (sAll [sRet (eIf (tCmp2 (cmpV .Lt) (eLoc (S "places")) (eV (.int 0))) (eLoc (S "top")) (e1S (callV (orc n sc (k + 2))) (eV (.fn 285)) [(eLoc (S "top")), (eLoc (S "places"))]))] l2 hp) = some (v, hp') ∧ _
        by_cases g4 : s.2.2 < 0
        · rw [if_pos g4]
          refine ⟨_, hp, ?_, rfl, rfl⟩
          simp only [a_sAll0, a_sExpr, a_sAsg, a_sIf, a_sRet, a_sCont, a_sOne, a_eV, a_eLoc, a_e1, a_e2, a_eAll0, a_eAll1, a_eS, a_e1S, a_eIf, a_eTr, a_eAnd1, a_eAnd2, a_tNot, a_tAnd0, a_tAnd1, a_tOr0, a_tOr1, a_tOf, a_tCmp2, a_tCmp3, a_eMeth, a_eO0, a_eO1, a_eCut, a_callF, a_callB, a_methF, ls1, ls2, ls3, ls4, a_bind, S_inj, String.reduceEq, reduceIte, a_fin1, a_fin2, a_fin3, Bool.not_true, Bool.not_false, a_trB, a_lt, a_le, a_gt, a_ge, a_eq, a_ne, a_add, a_sub, a_neg, a_mod, a_inW, a_niW, a_niD, decide_true, decide_false, nT2, nT3, nL0, nL1, a_eqB, a_eqS, a_neS, s4, s5, g4]
        · rw [if_neg g4]
          obtain ⟨p, hp_⟩ : ∃ p : Nat, s.2.2 = (p : Int) := ⟨s.2.2.toNat, by omega⟩
          refine ⟨_, _, ?_, rfl, rfl⟩
          rw [hp_] at s5 g4 ⊢
          rw [Int.toNat_natCast]
          simp only [a_sAll0, a_sExpr, a_sAsg, a_sIf, a_sRet, a_sCont, a_sOne, a_eV, a_eLoc, a_e1, a_e2, a_eAll0, a_eAll1, a_eS, a_e1S, a_eIf, a_eTr, a_eAnd1, a_eAnd2, a_tNot, a_tAnd0, a_tAnd1, a_tOr0, a_tOr1, a_tOf, a_tCmp2, a_tCmp3, a_eMeth, a_eO0, a_eO1, a_eCut, a_callF, a_callB, a_methF, ls1, ls2, ls3, ls4, a_bind, S_inj, String.reduceEq, reduceIte, a_fin1, a_fin2, a_fin3, Bool.not_true, Bool.not_false, a_trB, a_lt, a_le, a_gt, a_ge, a_eq, a_ne, a_add, a_sub, a_neg, a_mod, a_inW, a_niW, a_niD, decide_true, decide_false, nT2, nT3, nL0, nL1, a_eqB, a_eqS, a_neS, s4, s5, g4, sp_285 (n := n) (sc := sc) (k := k) (q := p) (t := if decide (x = 45) = true then -s.1 else s.1) (hp := hp) (by omega)]
theorem sp_303 {x : UInt8} {ys : List UInt8} {hp : Hp} (hl : (x :: ys).length ≤ 60) (hn : 100 ≤ n) : ∃ v hp', orc n sc (k + 3) 303 [.bytes (x :: ys)] hp = some (v, hp') ∧ RdAt (rd x ys) v hp hp' := by
  rw [orc_def rfl rfl rfl (den_303 ..)]
  have i0 : ∀ hp : Hp, idxV (.bytes (x :: ys)) (.int 0) hp = some (.int (x.toNat : Int), hp) := fun hp => by
    unfold idxV
    dsimp only
    rw [if_pos ⟨by decide, by rw [List.length_cons]; omega, by omega⟩]
    rfl
  have lp : ((0 : Int) < ((x :: ys).length : Int)) := by rw [List.length_cons]; omega
  have le := fun hp => a_lenB hp (x :: ys) (by omega)
  show ∃ v hp', fin (sAll (_ :: _ :: _ :: _ :: _ :: (body_303 (orc n sc (k + 2)) n sc).drop 5) _ hp) = some (v, hp') ∧ _
  unfold rd
  by_cases g1 : x = 43
  · rw [if_pos (.inl g1)]
    subst g1
    simp only [a_sIf, a_sAll0, a_sExpr, a_sAsg, a_sIf, a_sRet, a_sCont, a_sOne, a_eV, a_eLoc, a_e1, a_e2, a_eAll0, a_eAll1, a_eS, a_e1S, a_eIf, a_eTr, a_eAnd1, a_eAnd2, a_tNot, a_tAnd0, a_tAnd1, a_tOr0, a_tOr1, a_tOf, a_tCmp2, a_tCmp3, a_eMeth, a_eO0, a_eO1, a_eCut, a_callF, a_callB, a_methF, ls1, ls2, ls3, ls4, a_bind, S_inj, String.reduceEq, reduceIte, a_fin1, a_fin2, a_fin3, Bool.not_true, Bool.not_false, a_trB, a_lt, a_le, a_gt, a_ge, a_eq, a_ne, a_add, a_sub, a_neg, a_mod, a_inW, a_niW, a_niD, decide_true, decide_false, nT2, nT3, nL0, nL1, a_eqB, a_eqS, a_neS, le, lp, i0, UInt8.reduceToNat, Int.cast_ofNat_Int, a_then0]
    exact rest_303 (x := 43) (b := 1) (by simp only [a_sAll0, a_sExpr, a_sAsg, a_sIf, a_sRet, a_sCont, a_sOne, a_eV, a_eLoc, a_e1, a_e2, a_eAll0, a_eAll1, a_eS, a_e1S, a_eIf, a_eTr, a_eAnd1, a_eAnd2, a_tNot, a_tAnd0, a_tAnd1, a_tOr0, a_tOr1, a_tOf, a_tCmp2, a_tCmp3, a_eMeth, a_eO0, a_eO1, a_eCut, a_callF, a_callB, a_methF, ls1, ls2, ls3, ls4, a_bind, S_inj, String.reduceEq, reduceIte, a_fin1, a_fin2, a_fin3, Bool.not_true, Bool.not_false, a_trB, a_lt, a_le, a_gt, a_ge, a_eq, a_ne, a_add, a_sub, a_neg, a_mod, a_inW, a_niW, a_niD, decide_true, decide_false, nT2, nT3, nL0, nL1, a_eqB, a_eqS, a_neS]) (by simp only [a_sAll0, a_sExpr, a_sAsg, a_sIf, a_sRet, a_sCont, a_sOne, a_eV, a_eLoc, a_e1, a_e2, a_eAll0, a_eAll1, a_eS, a_e1S, a_eIf, a_eTr, a_eAnd1, a_eAnd2, a_tNot, a_tAnd0, a_tAnd1, a_tOr0, a_tOr1, a_tOf, a_tCmp2, a_tCmp3, a_eMeth, a_eO0, a_eO1, a_eCut, a_callF, a_callB, a_methF, ls1, ls2, ls3, ls4, a_bind, S_inj, String.reduceEq, reduceIte, a_fin1, a_fin2, a_fin3, Bool.not_true, Bool.not_false, a_trB, a_lt, a_le, a_gt, a_ge, a_eq, a_ne, a_add, a_sub, a_neg, a_mod, a_inW, a_niW, a_niD, decide_true, decide_false, nT2, nT3, nL0, nL1, a_eqB, a_eqS, a_neS]; rfl) (by omega) rfl (by simp only [a_sAll0, a_sExpr, a_sAsg, a_sIf, a_sRet, a_sCont, a_sOne, a_eV, a_eLoc, a_e1, a_e2, a_eAll0, a_eAll1, a_eS, a_e1S, a_eIf, a_eTr, a_eAnd1, a_eAnd2, a_tNot, a_tAnd0, a_tAnd1, a_tOr0, a_tOr1, a_tOf, a_tCmp2, a_tCmp3, a_eMeth, a_eO0, a_eO1, a_eCut, a_callF, a_callB, a_methF, ls1, ls2, ls3, ls4, a_bind, S_inj, String.reduceEq, reduceIte, a_fin1, a_fin2, a_fin3, Bool.not_true, Bool.not_false, a_trB, a_lt, a_le, a_gt, a_ge, a_eq, a_ne, a_add, a_sub, a_neg, a_mod, a_inW, a_niW, a_niD, decide_true, decide_false, nT2, nT3, nL0, nL1, a_eqB, a_eqS, a_neS]) (by simp only [a_sAll0, a_sExpr, a_sAsg, a_sIf, a_sRet, a_sCont, a_sOne, a_eV, a_eLoc, a_e1, a_e2, a_eAll0, a_eAll1, a_eS, a_e1S, a_eIf, a_eTr, a_eAnd1, a_eAnd2, a_tNot, a_tAnd0, a_tAnd1, a_tOr0, a_tOr1, a_tOf, a_tCmp2, a_tCmp3, a_eMeth, a_eO0, a_eO1, a_eCut, a_callF, a_callB, a_methF, ls1, ls2, ls3, ls4, a_bind, S_inj, String.reduceEq, reduceIte, a_fin1, a_fin2, a_fin3, Bool.not_true, Bool.not_false, a_trB, a_lt, a_le, a_gt, a_ge, a_eq, a_ne, a_add, a_sub, a_neg, a_mod, a_inW, a_niW, a_niD, decide_true, decide_false, nT2, nT3, nL0, nL1, a_eqB, a_eqS, a_neS]) (by simp only [a_sAll0, a_sExpr, a_sAsg, a_sIf, a_sRet, a_sCont, a_sOne, a_eV, a_eLoc, a_e1, a_e2, a_eAll0, a_eAll1, a_eS, a_e1S, a_eIf, a_eTr, a_eAnd1, a_eAnd2, a_tNot, a_tAnd0, a_tAnd1, a_tOr0, a_tOr1, a_tOf, a_tCmp2, a_tCmp3, a_eMeth, a_eO0, a_eO1, a_eCut, a_callF, a_callB, a_methF, ls1, ls2, ls3, ls4, a_bind, S_inj, String.reduceEq, reduceIte, a_fin1, a_fin2, a_fin3, Bool.not_true, Bool.not_false, a_trB, a_lt, a_le, a_gt, a_ge, a_eq, a_ne, a_add, a_sub, a_neg, a_mod, a_inW, a_niW, a_niD, decide_true, decide_false, nT2, nT3, nL0, nL1, a_eqB, a_eqS, a_neS]) hl hn i0
  · have e1 : ¬ ((x.toNat : Int) = 43) := fun q => g1 (UInt8.toNat_inj.mp (by show x.toNat = 43; omega))
    by_cases g2 : x = 45
    · rw [if_pos (.inr g2)]
      subst g2
      simp only [a_sIf, a_sAll0, a_sExpr, a_sAsg, a_sIf, a_sRet, a_sCont, a_sOne, a_eV, a_eLoc, a_e1, a_e2, a_eAll0, a_eAll1, a_eS, a_e1S, a_eIf, a_eTr, a_eAnd1, a_eAnd2, a_tNot, a_tAnd0, a_tAnd1, a_tOr0, a_tOr1, a_tOf, a_tCmp2, a_tCmp3, a_eMeth, a_eO0, a_eO1, a_eCut, a_callF, a_callB, a_methF, ls1, ls2, ls3, ls4, a_bind, S_inj, String.reduceEq, reduceIte, a_fin1, a_fin2, a_fin3, Bool.not_true, Bool.not_false, a_trB, a_lt, a_le, a_gt, a_ge, a_eq, a_ne, a_add, a_sub, a_neg, a_mod, a_inW, a_niW, a_niD, decide_true, decide_false, nT2, nT3, nL0, nL1, a_eqB, a_eqS, a_neS, le, lp, i0, UInt8.reduceToNat, Int.cast_ofNat_Int, Int.reduceEq, a_then0]
      exact rest_303 (x := 45) (b := 1) (by simp only [a_sAll0, a_sExpr, a_sAsg, a_sIf, a_sRet, a_sCont, a_sOne, a_eV, a_eLoc, a_e1, a_e2, a_eAll0, a_eAll1, a_eS, a_e1S, a_eIf, a_eTr, a_eAnd1, a_eAnd2, a_tNot, a_tAnd0, a_tAnd1, a_tOr0, a_tOr1, a_tOf, a_tCmp2, a_tCmp3, a_eMeth, a_eO0, a_eO1, a_eCut, a_callF, a_callB, a_methF, ls1, ls2, ls3, ls4, a_bind, S_inj, String.reduceEq, reduceIte, a_fin1, a_fin2, a_fin3, Bool.not_true, Bool.not_false, a_trB, a_lt, a_le, a_gt, a_ge, a_eq, a_ne, a_add, a_sub, a_neg, a_mod, a_inW, a_niW, a_niD, decide_true, decide_false, nT2, nT3, nL0, nL1, a_eqB, a_eqS, a_neS]) (by simp only [a_sAll0, a_sExpr, a_sAsg, a_sIf, a_sRet, a_sCont, a_sOne, a_eV, a_eLoc, a_e1, a_e2, a_eAll0, a_eAll1, a_eS, a_e1S, a_eIf, a_eTr, a_eAnd1, a_eAnd2, a_tNot, a_tAnd0, a_tAnd1, a_tOr0, a_tOr1, a_tOf, a_tCmp2, a_tCmp3, a_eMeth, a_eO0, a_eO1, a_eCut, a_callF, a_callB, a_methF, ls1, ls2, ls3, ls4, a_bind, S_inj, String.reduceEq, reduceIte, a_fin1, a_fin2, a_fin3, Bool.not_true, Bool.not_false, a_trB, a_lt, a_le, a_gt, a_ge, a_eq, a_ne, a_add, a_sub, a_neg, a_mod, a_inW, a_niW, a_niD, decide_true, decide_false, nT2, nT3, nL0, nL1, a_eqB, a_eqS, a_neS]; rfl) (by omega) rfl (by simp only [a_sAll0, a_sExpr, a_sAsg, a_sIf, a_sRet, a_sCont, a_sOne, a_eV, a_eLoc, a_e1, a_e2, a_eAll0, a_eAll1, a_eS, a_e1S, a_eIf, a_eTr, a_eAnd1, a_eAnd2, a_tNot, a_tAnd0, a_tAnd1, a_tOr0, a_tOr1, a_tOf, a_tCmp2, a_tCmp3, a_eMeth, a_eO0, a_eO1, a_eCut, a_callF, a_callB, a_methF, ls1, ls2, ls3, ls4, a_bind, S_inj, String.reduceEq, reduceIte, a_fin1, a_fin2, a_fin3, Bool.not_true, Bool.not_false, a_trB, a_lt, a_le, a_gt, a_ge, a_eq, a_ne, a_add, a_sub, a_neg, a_mod, a_inW, a_niW, a_niD, decide_true, decide_false, nT2, nT3, nL0, nL1, a_eqB, a_eqS, a_neS]) (by simp only [a_sAll0, a_sExpr, a_sAsg, a_sIf, a_sRet, a_sCont, a_sOne, a_eV, a_eLoc, a_e1, a_e2, a_eAll0, a_eAll1, a_eS, a_e1S, a_eIf, a_eTr, a_eAnd1, a_eAnd2, a_tNot, a_tAnd0, a_tAnd1, a_tOr0, a_tOr1, a_tOf, a_tCmp2, a_tCmp3, a_eMeth, a_eO0, a_eO1, a_eCut, a_callF, a_callB, a_methF, ls1, ls2, ls3, ls4, a_bind, S_inj, String.reduceEq, reduceIte, a_fin1, a_fin2, a_fin3, Bool.not_true, Bool.not_false, a_trB, a_lt, a_le, a_gt, a_ge, a_eq, a_ne, a_add, a_sub, a_neg, a_mod, a_inW, a_niW, a_niD, decide_true, decide_false, nT2, nT3, nL0, nL1, a_eqB, a_eqS, a_neS]) (by simp only [a_sAll0, a_sExpr, a_sAsg, a_sIf, a_sRet, a_sCont, a_sOne, a_eV, a_eLoc, a_e1, a_e2, a_eAll0, a_eAll1, a_eS, a_e1S, a_eIf, a_eTr, a_eAnd1, a_eAnd2, a_tNot, a_tAnd0, a_tAnd1, a_tOr0, a_tOr1, a_tOf, a_tCmp2, a_tCmp3, a_eMeth, a_eO0, a_eO1, a_eCut, a_callF, a_callB, a_methF, ls1, ls2, ls3, ls4, a_bind, S_inj, String.reduceEq, reduceIte, a_fin1, a_fin2, a_fin3, Bool.not_true, Bool.not_false, a_trB, a_lt, a_le, a_gt, a_ge, a_eq, a_ne, a_add, a_sub, a_neg, a_mod, a_inW, a_niW, a_niD, decide_true, decide_false, nT2, nT3, nL0, nL1, a_eqB, a_eqS, a_neS]) hl hn i0
    · have e2 : ¬ ((x.toNat : Int) = 45) := fun q => g2 (UInt8.toNat_inj.mp (by show x.toNat = 45; omega))
      rw [if_neg (by rintro (a | a); exact g1 a; exact g2 a)]
      simp only [a_sIf, a_sAll0, a_sExpr, a_sAsg, a_sIf, a_sRet, a_sCont, a_sOne, a_eV, a_eLoc, a_e1, a_e2, a_eAll0, a_eAll1, a_eS, a_e1S, a_eIf, a_eTr, a_eAnd1, a_eAnd2, a_tNot, a_tAnd0, a_tAnd1, a_tOr0, a_tOr1, a_tOf, a_tCmp2, a_tCmp3, a_eMeth, a_eO0, a_eO1, a_eCut, a_callF, a_callB, a_methF, ls1, ls2, ls3, ls4, a_bind, S_inj, String.reduceEq, reduceIte, a_fin1, a_fin2, a_fin3, Bool.not_true, Bool.not_false, a_trB, a_lt, a_le, a_gt, a_ge, a_eq, a_ne, a_add, a_sub, a_neg, a_mod, a_inW, a_niW, a_niD, decide_true, decide_false, nT2, nT3, nL0, nL1, a_eqB, a_eqS, a_neS, le, lp, i0, e1, e2, a_then0]
      exact rest_303 (b := 0) (by simp only [a_sAll0, a_sExpr, a_sAsg, a_sIf, a_sRet, a_sCont, a_sOne, a_eV, a_eLoc, a_e1, a_e2, a_eAll0, a_eAll1, a_eS, a_e1S, a_eIf, a_eTr, a_eAnd1, a_eAnd2, a_tNot, a_tAnd0, a_tAnd1, a_tOr0, a_tOr1, a_tOf, a_tCmp2, a_tCmp3, a_eMeth, a_eO0, a_eO1, a_eCut, a_callF, a_callB, a_methF, ls1, ls2, ls3, ls4, a_bind, S_inj, String.reduceEq, reduceIte, a_fin1, a_fin2, a_fin3, Bool.not_true, Bool.not_false, a_trB, a_lt, a_le, a_gt, a_ge, a_eq, a_ne, a_add, a_sub, a_neg, a_mod, a_inW, a_niW, a_niD, decide_true, decide_false, nT2, nT3, nL0, nL1, a_eqB, a_eqS, a_neS]) (by simp only [a_sAll0, a_sExpr, a_sAsg, a_sIf, a_sRet, a_sCont, a_sOne, a_eV, a_eLoc, a_e1, a_e2, a_eAll0, a_eAll1, a_eS, a_e1S, a_eIf, a_eTr, a_eAnd1, a_eAnd2, a_tNot, a_tAnd0, a_tAnd1, a_tOr0, a_tOr1, a_tOf, a_tCmp2, a_tCmp3, a_eMeth, a_eO0, a_eO1, a_eCut, a_callF, a_callB, a_methF, ls1, ls2, ls3, ls4, a_bind, S_inj, String.reduceEq, reduceIte, a_fin1, a_fin2, a_fin3, Bool.not_true, Bool.not_false, a_trB, a_lt, a_le, a_gt, a_ge, a_eq, a_ne, a_add, a_sub, a_neg, a_mod, a_inW, a_niW, a_niD, decide_true, decide_false, nT2, nT3, nL0, nL1, a_eqB, a_eqS, a_neS]; rfl) (by omega) rfl (by simp only [a_sAll0, a_sExpr, a_sAsg, a_sIf, a_sRet, a_sCont, a_sOne, a_eV, a_eLoc, a_e1, a_e2, a_eAll0, a_eAll1, a_eS, a_e1S, a_eIf, a_eTr, a_eAnd1, a_eAnd2, a_tNot, a_tAnd0, a_tAnd1, a_tOr0, a_tOr1, a_tOf, a_tCmp2, a_tCmp3, a_eMeth, a_eO0, a_eO1, a_eCut, a_callF, a_callB, a_methF, ls1, ls2, ls3, ls4, a_bind, S_inj, String.reduceEq, reduceIte, a_fin1, a_fin2, a_fin3, Bool.not_true, Bool.not_false, a_trB, a_lt, a_le, a_gt, a_ge, a_eq, a_ne, a_add, a_sub, a_neg, a_mod, a_inW, a_niW, a_niD, decide_true, decide_false, nT2, nT3, nL0, nL1, a_eqB, a_eqS, a_neS]) (by simp only [a_sAll0, a_sExpr, a_sAsg, a_sIf, a_sRet, a_sCont, a_sOne, a_eV, a_eLoc, a_e1, a_e2, a_eAll0, a_eAll1, a_eS, a_e1S, a_eIf, a_eTr, a_eAnd1, a_eAnd2, a_tNot, a_tAnd0, a_tAnd1, a_tOr0, a_tOr1, a_tOf, a_tCmp2, a_tCmp3, a_eMeth, a_eO0, a_eO1, a_eCut, a_callF, a_callB, a_methF, ls1, ls2, ls3, ls4, a_bind, S_inj, String.reduceEq, reduceIte, a_fin1, a_fin2, a_fin3, Bool.not_true, Bool.not_false, a_trB, a_lt, a_le, a_gt, a_ge, a_eq, a_ne, a_add, a_sub, a_neg, a_mod, a_inW, a_niW, a_niD, decide_true, decide_false, nT2, nT3, nL0, nL1, a_eqB, a_eqS, a_neS]) (by simp only [a_sAll0, a_sExpr, a_sAsg, a_sIf, a_sRet, a_sCont, a_sOne, a_eV, a_eLoc, a_e1, a_e2, a_eAll0, a_eAll1, a_eS, a_e1S, a_eIf, a_eTr, a_eAnd1, a_eAnd2, a_tNot, a_tAnd0, a_tAnd1, a_tOr0, a_tOr1, a_tOf, a_tCmp2, a_tCmp3, a_eMeth, a_eO0, a_eO1, a_eCut, a_callF, a_callB, a_methF, ls1, ls2, ls3, ls4, a_bind, S_inj, String.reduceEq, reduceIte, a_fin1, a_fin2, a_fin3, Bool.not_true, Bool.not_false, a_trB, a_lt, a_le, a_gt, a_ge, a_eq, a_ne, a_add, a_sub, a_neg, a_mod, a_inW, a_niW, a_niD, decide_true, decide_false, nT2, nT3, nL0, nL1, a_eqB, a_eqS, a_neS]) hl hn i0
end
end Mine

open PySem PySem.W PyProof.Rows PySem.Calls
set_option Elab.async false
set_option maxRecDepth 100000
set_option maxHeartbeats 1000000
set_option linter.all false
namespace Mine
/-- all that was there stays -/
def Ext (hp hp' : Hp) : Prop := ∀ (i : Nat) x, hp[i]? = some x → hp'[i]? = some x
theorem Ext.refl (hp : Hp) : Ext hp hp := fun _ _ h => h
theorem Ext.trans {h0 h1 h2 : Hp} (A : Ext h0 h1) (B : Ext h1 h2) : Ext h0 h2 := fun i x h => B i x (A i x h)
theorem Ext.push (hp t : Hp) : Ext hp (hp ++ t) := fun i x e => by
  rw [List.getElem?_append_left (lt_of_at e)]; exact e
theorem St.ext {c : Nat} {o : O} {hp hp' : Hp} (h : hp[c]? = some o) (E : Ext hp hp') : St c o hp hp' := ⟨E c o h, fun i x _ e => E i x e⟩
theorem Ext.new {o : O} {hp hp' : Hp} {x : O} (h : St hp.length o (hp ++ [x]) hp') : Ext hp hp' := fun i y e => h.keep i y (Nat.ne_of_lt (lt_of_at e)) (Ext.push hp _ i y e)
section
variable {n : Nat} {sc : Addr × List Int} {k : Nat} {hp : Hp}
theorem hx52 : orc n sc (k + 1) 311 [.int 52] hp = some (.int 4, hp) := by
  rw [orc_def rfl rfl rfl (den_311 ..)]
  simp only [body_311, a_sIf, a_sAll0, a_sExpr, a_sAsg, a_sIf, a_sRet, a_sCont, a_sOne, a_eV, a_eLoc, a_e1, a_e2, a_eAll0, a_eAll1, a_eS, a_e1S, a_eIf, a_eTr, a_eAnd1, a_eAnd2, a_tNot, a_tAnd0, a_tAnd1, a_tOr0, a_tOr1, a_tOf, a_tCmp2, a_tCmp3, a_eMeth, a_eO0, a_eO1, a_eCut, a_callF, a_callB, a_methF, ls1, ls2, ls3, ls4, a_bind, S_inj, String.reduceEq, reduceIte, a_fin1, a_fin2, a_fin3, Bool.not_true, Bool.not_false, a_trB, a_lt, a_le, a_gt, a_ge, a_eq, a_ne, a_add, a_sub, a_neg, a_mod, a_inW, a_niW, a_niD, decide_true, decide_false, nT2, nT3, nL0, nL1, a_eqB, a_eqS, a_neS, Int.reduceLE, Int.reduceSub, a_then1, a_then0]
theorem hx50 : orc n sc (k + 1) 311 [.int 50] hp = some (.int 2, hp) := by
  rw [orc_def rfl rfl rfl (den_311 ..)]
  simp only [body_311, a_sIf, a_sAll0, a_sExpr, a_sAsg, a_sIf, a_sRet, a_sCont, a_sOne, a_eV, a_eLoc, a_e1, a_e2, a_eAll0, a_eAll1, a_eS, a_e1S, a_eIf, a_eTr, a_eAnd1, a_eAnd2, a_tNot, a_tAnd0, a_tAnd1, a_tOr0, a_tOr1, a_tOf, a_tCmp2, a_tCmp3, a_eMeth, a_eO0, a_eO1, a_eCut, a_callF, a_callB, a_methF, ls1, ls2, ls3, ls4, a_bind, S_inj, String.reduceEq, reduceIte, a_fin1, a_fin2, a_fin3, Bool.not_true, Bool.not_false, a_trB, a_lt, a_le, a_gt, a_ge, a_eq, a_ne, a_add, a_sub, a_neg, a_mod, a_inW, a_niW, a_niD, decide_true, decide_false, nT2, nT3, nL0, nL1, a_eqB, a_eqS, a_neS, Int.reduceLE, Int.reduceSub, a_then1, a_then0]
theorem hx49 : orc n sc (k + 1) 311 [.int 49] hp = some (.int 1, hp) := by
  rw [orc_def rfl rfl rfl (den_311 ..)]
  simp only [body_311, a_sIf, a_sAll0, a_sExpr, a_sAsg, a_sIf, a_sRet, a_sCont, a_sOne, a_eV, a_eLoc, a_e1, a_e2, a_eAll0, a_eAll1, a_eS, a_e1S, a_eIf, a_eTr, a_eAnd1, a_eAnd2, a_tNot, a_tAnd0, a_tAnd1, a_tOr0, a_tOr1, a_tOf, a_tCmp2, a_tCmp3, a_eMeth, a_eO0, a_eO1, a_eCut, a_callF, a_callB, a_methF, ls1, ls2, ls3, ls4, a_bind, S_inj, String.reduceEq, reduceIte, a_fin1, a_fin2, a_fin3, Bool.not_true, Bool.not_false, a_trB, a_lt, a_le, a_gt, a_ge, a_eq, a_ne, a_add, a_sub, a_neg, a_mod, a_inW, a_niW, a_niD, decide_true, decide_false, nT2, nT3, nL0, nL1, a_eqB, a_eqS, a_neS, Int.reduceLE, Int.reduceSub, a_then1, a_then0]
theorem hx97 : orc n sc (k + 1) 311 [.int 97] hp = some (.int 10, hp) := by
  rw [orc_def rfl rfl rfl (den_311 ..)]
  simp only [body_311, a_sIf, a_sAll0, a_sExpr, a_sAsg, a_sIf, a_sRet, a_sCont, a_sOne, a_eV, a_eLoc, a_e1, a_e2, a_eAll0, a_eAll1, a_eS, a_e1S, a_eIf, a_eTr, a_eAnd1, a_eAnd2, a_tNot, a_tAnd0, a_tAnd1, a_tOr0, a_tOr1, a_tOf, a_tCmp2, a_tCmp3, a_eMeth, a_eO0, a_eO1, a_eCut, a_callF, a_callB, a_methF, ls1, ls2, ls3, ls4, a_bind, S_inj, String.reduceEq, reduceIte, a_fin1, a_fin2, a_fin3, Bool.not_true, Bool.not_false, a_trB, a_lt, a_le, a_gt, a_ge, a_eq, a_ne, a_add, a_sub, a_neg, a_mod, a_inW, a_niW, a_niD, decide_true, decide_false, nT2, nT3, nL0, nL1, a_eqB, a_eqS, a_neS, Int.reduceLE, Int.reduceSub, a_then1, a_then0]
theorem hx32 : orc n sc (k + 1) 311 [.int 32] hp = some (.int (-1), hp) := by
  rw [orc_def rfl rfl rfl (den_311 ..)]
  simp only [body_311, a_sIf, a_sAll0, a_sExpr, a_sAsg, a_sIf, a_sRet, a_sCont, a_sOne, a_eV, a_eLoc, a_e1, a_e2, a_eAll0, a_eAll1, a_eS, a_e1S, a_eIf, a_eTr, a_eAnd1, a_eAnd2, a_tNot, a_tAnd0, a_tAnd1, a_tOr0, a_tOr1, a_tOf, a_tCmp2, a_tCmp3, a_eMeth, a_eO0, a_eO1, a_eCut, a_callF, a_callB, a_methF, ls1, ls2, ls3, ls4, a_bind, S_inj, String.reduceEq, reduceIte, a_fin1, a_fin2, a_fin3, Bool.not_true, Bool.not_false, a_trB, a_lt, a_le, a_gt, a_ge, a_eq, a_ne, a_add, a_sub, a_neg, a_mod, a_inW, a_niW, a_niD, decide_true, decide_false, nT2, nT3, nL0, nL1, a_eqB, a_eqS, a_neS, Int.reduceLE, Int.reduceSub, a_then1, a_then0]
theorem hx10 : orc n sc (k + 1) 311 [.int 10] hp = some (.int (-1), hp) := by
  rw [orc_def rfl rfl rfl (den_311 ..)]
  simp only [body_311, a_sIf, a_sAll0, a_sExpr, a_sAsg, a_sIf, a_sRet, a_sCont, a_sOne, a_eV, a_eLoc, a_e1, a_e2, a_eAll0, a_eAll1, a_eS, a_e1S, a_eIf, a_eTr, a_eAnd1, a_eAnd2, a_tNot, a_tAnd0, a_tAnd1, a_tOr0, a_tOr1, a_tOf, a_tCmp2, a_tCmp3, a_eMeth, a_eO0, a_eO1, a_eCut, a_callF, a_callB, a_methF, ls1, ls2, ls3, ls4, a_bind, S_inj, String.reduceEq, reduceIte, a_fin1, a_fin2, a_fin3, Bool.not_true, Bool.not_false, a_trB, a_lt, a_le, a_gt, a_ge, a_eq, a_ne, a_add, a_sub, a_neg, a_mod, a_inW, a_niW, a_niD, decide_true, decide_false, nT2, nT3, nL0, nL1, a_eqB, a_eqS, a_neS, Int.reduceLE, Int.reduceSub, a_then1, a_then0]
noncomputable def ch (q : Nat) : V := .str ⟨#[q]⟩
theorem a_chr (i : Int) (h : 0 ≤ i ∧ i ≤ 1114111) : callB .chr [.int i] hp = some (.str ⟨#[i.toNat]⟩, hp) := by
  show (if 0 ≤ i ∧ i ≤ 1114111 then some (V.str ⟨#[i.toNat]⟩) else none).map (·, hp) = _
  rw [if_pos h]
  rfl
/-- appending to a list that stands under a name -/
theorem sExpr_append {C : Orc} {o : Ev} {e : Ev} {ls : Ls} {h2 : Hp} {s : Nat} {v : V} {xs : List V} (ho : o ls hp = some (.ref s, hp)) (hs : hp[s]? = some (.list xs)) (he : e ls hp = some (v, h2)) (hs2 : h2[s]? = some (.list xs)) (hl : xs.length ≤ 1000000) (es : List Ex) :
    sAll (sExpr (eMeth C (S "append") o [e]) :: es) ls hp = sAll es ls (h2.set s (.list (xs ++ [v]))) := by
  rw [a_sExpr, a_eMeth, ho]
  dsimp only
  rw [me_append hs]
  dsimp only
  rw [a_eAll1, he]
  dsimp only
  rw [a_eAll0]
  dsimp only
  rw [a_append _ hs2 hl]
theorem strJoin_ch : ∀ (l : List Nat), strJoin hp (l.map ch) = some l := by
  intro l
  induction l with
  | nil => rfl
  | cons x l ih =>
    rw [List.map_cons]
    show (strJoin hp (l.map ch)).map (_ ++ ·) = _
    rw [ih]
    rfl
theorem sEmpty : S "" = ⟨#[]⟩ := by kernel_rfl
theorem step_326 {o r : List UInt8} {x : UInt8} {i s : Nat} {l : List Nat} {ls : Ls} (hx : x ≠ 35 ∧ x ≠ 0) (W : Win o i o.length (x :: r)) (h1 : ls (S "octets") = some (.bytes o)) (h2 : ls (S "place") = some (.int (i : Int))) (h3 : ls (S "signs") = some (.ref s)) (hs : hp[s]? = some (.list (l.map ch))) (hl : l.length ≤ 1000) (m : Nat) :
    sWhile (tCmp2 (cmpV .Lt) (eLoc (S "place")) (e1S (callV (orc n sc (k + 1))) (eV (.bi .len)) [(eLoc (S "octets"))])) (sAll [(sAsg (S "code") (e2 idxV (eLoc (S "octets")) (eLoc (S "place")))), (sAsg (S "place") (e2 (binV .Add) (eLoc (S "place")) (eV (.int 1)))), (sIf (tAnd [(tCmp2 (cmpV .Eq) (eLoc (S "code")) (eV (.int 35))), (tCmp2 (cmpV .Lt) (e2 (binV .Add) (eLoc (S "place")) (eV (.int 1))) (e1S (callV (orc n sc (k + 1))) (eV (.bi .len)) [(eLoc (S "octets"))]))]) (sAll [(sAsg (S "high") (e1S (callV (orc n sc (k + 1))) (eV (.fn 311)) [(e2 idxV (eLoc (S "octets")) (eLoc (S "place")))])), (sAsg (S "low") (e1S (callV (orc n sc (k + 1))) (eV (.fn 311)) [(e2 idxV (eLoc (S "octets")) (e2 (binV .Add) (eLoc (S "place")) (eV (.int 1))))])), (sIf (tAnd [(tCmp2 (cmpV .GtE) (eLoc (S "high")) (eV (.int 0))), (tCmp2 (cmpV .GtE) (eLoc (S "low")) (eV (.int 0)))]) (sAll [(sAsg (S "code") (e2 (binV .Add) (e2 (binV .Mult) (eV (.int 16)) (eLoc (S "high"))) (eLoc (S "low")))), (sAsg (S "place") (e2 (binV .Add) (eLoc (S "place")) (eV (.int 2))))]) (sAll []))]) (sAll [])), (sIf (tCmp2 (cmpV .Eq) (eLoc (S "code")) (eV (.int 0))) (sAll [sNo]) (sAll [])), (sExpr (eMeth (orc n sc (k + 1)) (S "append") (eLoc (S "signs")) [(e1S (callV (orc n sc (k + 1))) (eV (.bi .chr)) [(eLoc (S "code"))])]))]) (m + 1) ls hp = sWhile (tCmp2 (cmpV .Lt) (eLoc (S "place")) (e1S (callV (orc n sc (k + 1))) (eV (.bi .len)) [(eLoc (S "octets"))])) (sAll [(sAsg (S "code") (e2 idxV (eLoc (S "octets")) (eLoc (S "place")))), (sAsg (S "place") (e2 (binV .Add) (eLoc (S "place")) (eV (.int 1)))), (sIf (tAnd [(tCmp2 (cmpV .Eq) (eLoc (S "code")) (eV (.int 35))), (tCmp2 (cmpV .Lt) (e2 (binV .Add) (eLoc (S "place")) (eV (.int 1))) (e1S (callV (orc n sc (k + 1))) (eV (.bi .len)) [(eLoc (S "octets"))]))]) (sAll [(sAsg (S "high") (e1S (callV (orc n sc (k + 1))) (eV (.fn 311)) [(e2 idxV (eLoc (S "octets")) (eLoc (S "place")))])), (sAsg (S "low") (e1S (callV (orc n sc (k + 1))) (eV (.fn 311)) [(e2 idxV (eLoc (S "octets")) (e2 (binV .Add) (eLoc (S "place")) (eV (.int 1))))])), (sIf (tAnd [(tCmp2 (cmpV .GtE) (eLoc (S "high")) (eV (.int 0))), (tCmp2 (cmpV .GtE) (eLoc (S "low")) (eV (.int 0)))]) (sAll [(sAsg (S "code") (e2 (binV .Add) (e2 (binV .Mult) (eV (.int 16)) (eLoc (S "high"))) (eLoc (S "low")))), (sAsg (S "place") (e2 (binV .Add) (eLoc (S "place")) (eV (.int 2))))]) (sAll []))]) (sAll [])), (sIf (tCmp2 (cmpV .Eq) (eLoc (S "code")) (eV (.int 0))) (sAll [sNo]) (sAll [])), (sExpr (eMeth (orc n sc (k + 1)) (S "append") (eLoc (S "signs")) [(e1S (callV (orc n sc (k + 1))) (eV (.bi .chr)) [(eLoc (S "code"))])]))]) m (bind1 (S "place") (.int ((i + 1 : Nat) : Int)) (bind1 (S "code") (.int (x.toNat : Int)) ls)) (hp.set s (.list ((l ++ [x.toNat]).map ch))) := by
  have lt : ((i : Int) < (o.length : Int)) := by have := W.lt; omega
  have le := W.lim
  have e1 : ¬ ((x.toNat : Int) = 35) := fun q => hx.1 (UInt8.toNat_inj.mp (by show x.toNat = 35; omega))
  have e2 : ¬ ((x.toNat : Int) = 0) := fun q => hx.2 (UInt8.toNat_inj.mp (by show x.toNat = 0; omega))
  have ub := x.toNat_lt
  refine w_step (h1 := hp) ?_ ?_
  · simp only [a_sAll0, a_sExpr, a_sAsg, a_sIf, a_sRet, a_sCont, a_sOne, a_eV, a_eLoc, a_e1, a_e2, a_eAll0, a_eAll1, a_eS, a_e1S, a_eIf, a_eTr, a_eAnd1, a_eAnd2, a_tNot, a_tAnd0, a_tAnd1, a_tOr0, a_tOr1, a_tOf, a_tCmp2, a_tCmp3, a_eMeth, a_eO0, a_eO1, a_eCut, a_callF, a_callB, a_methF, ls1, ls2, ls3, ls4, a_bind, S_inj, String.reduceEq, reduceIte, a_fin1, a_fin2, a_fin3, Bool.not_true, Bool.not_false, a_trB, a_lt, a_le, a_gt, a_ge, a_eq, a_ne, a_add, a_sub, a_neg, a_mod, a_inW, a_niW, a_niD, decide_true, decide_false, nT2, nT3, nL0, nL1, a_eqB, a_eqS, a_neS, h1, h2, lt, a_lenB hp o (by omega)]
  · simp only [a_sIf, a_sAsg, a_e1, a_e2, a_eLoc, a_eV, a_tAnd1, a_tCmp2, a_add, a_eq, h1, h2, W.idx hp, a_bind, S_inj, String.reduceEq, reduceIte, e1, e2, decide_false, a_sAll0, a_then0]
    rw [sExpr_append (v := ch x.toNat) (by simp only [a_sAll0, a_sExpr, a_sAsg, a_sIf, a_sRet, a_sCont, a_sOne, a_eV, a_eLoc, a_e1, a_e2, a_eAll0, a_eAll1, a_eS, a_e1S, a_eIf, a_eTr, a_eAnd1, a_eAnd2, a_tNot, a_tAnd0, a_tAnd1, a_tOr0, a_tOr1, a_tOf, a_tCmp2, a_tCmp3, a_eMeth, a_eO0, a_eO1, a_eCut, a_callF, a_callB, a_methF, ls1, ls2, ls3, ls4, a_bind, S_inj, String.reduceEq, reduceIte, a_fin1, a_fin2, a_fin3, Bool.not_true, Bool.not_false, a_trB, a_lt, a_le, a_gt, a_ge, a_eq, a_ne, a_add, a_sub, a_neg, a_mod, a_inW, a_niW, a_niD, decide_true, decide_false, nT2, nT3, nL0, nL1, a_eqB, a_eqS, a_neS, h3]) hs (by simp only [a_sAll0, a_sExpr, a_sAsg, a_sIf, a_sRet, a_sCont, a_sOne, a_eV, a_eLoc, a_e1, a_e2, a_eAll0, a_eAll1, a_eS, a_e1S, a_eIf, a_eTr, a_eAnd1, a_eAnd2, a_tNot, a_tAnd0, a_tAnd1, a_tOr0, a_tOr1, a_tOf, a_tCmp2, a_tCmp3, a_eMeth, a_eO0, a_eO1, a_eCut, a_callF, a_callB, a_methF, ls1, ls2, ls3, ls4, a_bind, S_inj, String.reduceEq, reduceIte, a_fin1, a_fin2, a_fin3, Bool.not_true, Bool.not_false, a_trB, a_lt, a_le, a_gt, a_ge, a_eq, a_ne, a_add, a_sub, a_neg, a_mod, a_inW, a_niW, a_niD, decide_true, decide_false, nT2, nT3, nL0, nL1, a_eqB, a_eqS, a_neS, a_chr _ (show 0 ≤ (x.toNat : Int) ∧ (x.toNat : Int) ≤ 1114111 by omega)]; rfl) hs (by rw [List.length_map]; omega), a_sAll0, List.map_append]
    rfl
theorem loop_326 {o : List UInt8} {s : Nat} : ∀ (r : List UInt8) (i m : Nat) (l : List Nat) (ls : Ls) (hp : Hp), r.length < m → r.all (fun x => x != 35 && x != 0) = true → Win o i o.length r → ls (S "octets") = some (.bytes o) → ls (S "place") = some (.int (i : Int)) → ls (S "signs") = some (.ref s) → hp[s]? = some (.list (l.map ch)) → l.length + r.length ≤ 1000 →
    ∃ ls' hp', sWhile (tCmp2 (cmpV .Lt) (eLoc (S "place")) (e1S (callV (orc n sc (k + 1))) (eV (.bi .len)) [(eLoc (S "octets"))])) (sAll [(sAsg (S "code") (e2 idxV (eLoc (S "octets")) (eLoc (S "place")))), (sAsg (S "place") (e2 (binV .Add) (eLoc (S "place")) (eV (.int 1)))), (sIf (tAnd [(tCmp2 (cmpV .Eq) (eLoc (S "code")) (eV (.int 35))), (tCmp2 (cmpV .Lt) (e2 (binV .Add) (eLoc (S "place")) (eV (.int 1))) (e1S (callV (orc n sc (k + 1))) (eV (.bi .len)) [(eLoc (S "octets"))]))]) (sAll [(sAsg (S "high") (e1S (callV (orc n sc (k + 1))) (eV (.fn 311)) [(e2 idxV (eLoc (S "octets")) (eLoc (S "place")))])), (sAsg (S "low") (e1S (callV (orc n sc (k + 1))) (eV (.fn 311)) [(e2 idxV (eLoc (S "octets")) (e2 (binV .Add) (eLoc (S "place")) (eV (.int 1))))])), (sIf (tAnd [(tCmp2 (cmpV .GtE) (eLoc (S "high")) (eV (.int 0))), (tCmp2 (cmpV .GtE) (eLoc (S "low")) (eV (.int 0)))]) (sAll [(sAsg (S "code") (e2 (binV .Add) (e2 (binV .Mult) (eV (.int 16)) (eLoc (S "high"))) (eLoc (S "low")))), (sAsg (S "place") (e2 (binV .Add) (eLoc (S "place")) (eV (.int 2))))]) (sAll []))]) (sAll [])), (sIf (tCmp2 (cmpV .Eq) (eLoc (S "code")) (eV (.int 0))) (sAll [sNo]) (sAll [])), (sExpr (eMeth (orc n sc (k + 1)) (S "append") (eLoc (S "signs")) [(e1S (callV (orc n sc (k + 1))) (eV (.bi .chr)) [(eLoc (S "code"))])]))]) m ls hp = some (.next, ls', hp') ∧ ls' (S "signs") = some (.ref s) ∧ St s (.list ((l ++ r.map UInt8.toNat).map ch)) hp hp' := by
  intro r
  induction r with
  | nil =>
    intro i m l ls hp hm _ W h1 h2 h3 hs hl
    obtain ⟨m, rfl⟩ : ∃ m', m = m' + 1 := ⟨m - 1, by simp at hm; omega⟩
    have lt : ¬ ((i : Int) < (o.length : Int)) := by have := W.nil; omega
    have le := W.lim
    refine ⟨ls, hp, w_stop ?_, h3, ?_⟩
    · simp only [a_sAll0, a_sExpr, a_sAsg, a_sIf, a_sRet, a_sCont, a_sOne, a_eV, a_eLoc, a_e1, a_e2, a_eAll0, a_eAll1, a_eS, a_e1S, a_eIf, a_eTr, a_eAnd1, a_eAnd2, a_tNot, a_tAnd0, a_tAnd1, a_tOr0, a_tOr1, a_tOf, a_tCmp2, a_tCmp3, a_eMeth, a_eO0, a_eO1, a_eCut, a_callF, a_callB, a_methF, ls1, ls2, ls3, ls4, a_bind, S_inj, String.reduceEq, reduceIte, a_fin1, a_fin2, a_fin3, Bool.not_true, Bool.not_false, a_trB, a_lt, a_le, a_gt, a_ge, a_eq, a_ne, a_add, a_sub, a_neg, a_mod, a_inW, a_niW, a_niD, decide_true, decide_false, nT2, nT3, nL0, nL1, a_eqB, a_eqS, a_neS, h1, h2, lt, a_lenB hp o (by omega)]
    · rw [List.map_nil, List.append_nil]; exact St.refl hs
  | cons x r ih =>
    intro i m l ls hp hm hr W h1 h2 h3 hs hl
    obtain ⟨m, rfl⟩ : ∃ m', m = m' + 1 := ⟨m - 1, by simp at hm; omega⟩
    rw [List.all_cons, Bool.and_eq_true, Bool.and_eq_true, bne_iff_ne, bne_iff_ne] at hr
    rw [List.length_cons] at hl hm
    rw [step_326 hr.1 W h1 h2 h3 hs (by omega)]
    obtain ⟨ls', hp', q1, q2, q3⟩ := ih (i + 1) m (l ++ [x.toNat]) (bind1 (S "place") (.int ((i + 1 : Nat) : Int)) (bind1 (S "code") (.int (x.toNat : Int)) ls)) _ (by omega) hr.2 W.tail (by rw [bind_ne (by decide), bind_ne (by decide)]; exact h1) (by simp only [a_bind, reduceIte]) (by rw [bind_ne (by decide), bind_ne (by decide)]; exact h3) (set_at hs) (by rw [List.length_append, List.length_cons, List.length_nil]; omega)
    refine ⟨ls', hp', q1, q2, (St.set (o' := .list ((l ++ [x.toNat]).map ch)) hs).trans ?_⟩
    rw [List.map_cons, ← List.singleton_append, ← List.append_assoc]
    exact q3
theorem end_326 {C : Orc} {ls' : Ls} {s : Nat} {l : List Nat} (h : ls' (S "signs") = some (.ref s)) (hs : hp[s]? = some (.list (l.map ch))) (hl : l.length ≤ 1000) : fin (sAll [sRet (eMeth C (S "join") (eV (.str (S ""))) [eLoc (S "signs")])] ls' hp) = some (.str ⟨l.toArray⟩, hp) := by
  have m1 : methR (S "join") (.str (S "")) hp = some .sjoin := by
    unfold methR
    dsimp only
    rw [if_pos ⟨rfl, sEmpty⟩]
  have m2 : methC C .sjoin (.str (S "")) [.ref s] hp = some (.str ⟨l.toArray⟩, hp) := by
    unfold methC joiV
    dsimp only
    rw [hs]
    dsimp only
    rw [strJoin_ch]
    dsimp only
    rw [if_pos ⟨by rw [List.length_map]; omega, by omega⟩]
  simp only [a_sAll0, a_sExpr, a_sAsg, a_sIf, a_sRet, a_sCont, a_sOne, a_eV, a_eLoc, a_e1, a_e2, a_eAll0, a_eAll1, a_eS, a_e1S, a_eIf, a_eTr, a_eAnd1, a_eAnd2, a_tNot, a_tAnd0, a_tAnd1, a_tOr0, a_tOr1, a_tOf, a_tCmp2, a_tCmp3, a_eMeth, a_eO0, a_eO1, a_eCut, a_callF, a_callB, a_methF, ls1, ls2, ls3, ls4, a_bind, S_inj, String.reduceEq, reduceIte, a_fin1, a_fin2, a_fin3, Bool.not_true, Bool.not_false, a_trB, a_lt, a_le, a_gt, a_ge, a_eq, a_ne, a_add, a_sub, a_neg, a_mod, a_inW, a_niW, a_niD, decide_true, decide_false, nT2, nT3, nL0, nL1, a_eqB, a_eqS, a_neS, a_eMeth, m1, h, m2]
theorem sp_326 {y : List UInt8} {v : V} (hy : y.all (fun x => x != 35 && x != 0) = true) (hl : y.length ≤ 200) (hn : 1000 ≤ n) : ∃ hp', orc n sc (k + 2) 326 [.bytes y, v] hp = some (.str ⟨(y.map UInt8.toNat).toArray⟩, hp') ∧ Ext hp hp' := by
  rw [orc_def rfl rfl rfl (den_326 ..)]
  obtain ⟨ls', hp', q1, q2, q3⟩ := loop_326 (n := n) (sc := sc) (k := k) (o := y) y 0 n [] (bind1 (S "place") (.int 0) (bind1 (S "signs") (.ref hp.length) (lsOf [(Str.ofString "octets", .bytes y), (Str.ofString "at", v)]))) (hp ++ [.list []]) (by omega) hy ⟨by rw [List.take_length]; rfl, Nat.le_refl _, by omega, Nat.zero_le _⟩ (by simp only [a_sAll0, a_sExpr, a_sAsg, a_sIf, a_sRet, a_sCont, a_sOne, a_eV, a_eLoc, a_e1, a_e2, a_eAll0, a_eAll1, a_eS, a_e1S, a_eIf, a_eTr, a_eAnd1, a_eAnd2, a_tNot, a_tAnd0, a_tAnd1, a_tOr0, a_tOr1, a_tOf, a_tCmp2, a_tCmp3, a_eMeth, a_eO0, a_eO1, a_eCut, a_callF, a_callB, a_methF, ls1, ls2, ls3, ls4, a_bind, S_inj, String.reduceEq, reduceIte, a_fin1, a_fin2, a_fin3, Bool.not_true, Bool.not_false, a_trB, a_lt, a_le, a_gt, a_ge, a_eq, a_ne, a_add, a_sub, a_neg, a_mod, a_inW, a_niW, a_niD, decide_true, decide_false, nT2, nT3, nL0, nL1, a_eqB, a_eqS, a_neS]) (by simp only [a_sAll0, a_sExpr, a_sAsg, a_sIf, a_sRet, a_sCont, a_sOne, a_eV, a_eLoc, a_e1, a_e2, a_eAll0, a_eAll1, a_eS, a_e1S, a_eIf, a_eTr, a_eAnd1, a_eAnd2, a_tNot, a_tAnd0, a_tAnd1, a_tOr0, a_tOr1, a_tOf, a_tCmp2, a_tCmp3, a_eMeth, a_eO0, a_eO1, a_eCut, a_callF, a_callB, a_methF, ls1, ls2, ls3, ls4, a_bind, S_inj, String.reduceEq, reduceIte, a_fin1, a_fin2, a_fin3, Bool.not_true, Bool.not_false, a_trB, a_lt, a_le, a_gt, a_ge, a_eq, a_ne, a_add, a_sub, a_neg, a_mod, a_inW, a_niW, a_niD, decide_true, decide_false, nT2, nT3, nL0, nL1, a_eqB, a_eqS, a_neS]; rfl) (by simp only [a_sAll0, a_sExpr, a_sAsg, a_sIf, a_sRet, a_sCont, a_sOne, a_eV, a_eLoc, a_e1, a_e2, a_eAll0, a_eAll1, a_eS, a_e1S, a_eIf, a_eTr, a_eAnd1, a_eAnd2, a_tNot, a_tAnd0, a_tAnd1, a_tOr0, a_tOr1, a_tOf, a_tCmp2, a_tCmp3, a_eMeth, a_eO0, a_eO1, a_eCut, a_callF, a_callB, a_methF, ls1, ls2, ls3, ls4, a_bind, S_inj, String.reduceEq, reduceIte, a_fin1, a_fin2, a_fin3, Bool.not_true, Bool.not_false, a_trB, a_lt, a_le, a_gt, a_ge, a_eq, a_ne, a_add, a_sub, a_neg, a_mod, a_inW, a_niW, a_niD, decide_true, decide_false, nT2, nT3, nL0, nL1, a_eqB, a_eqS, a_neS]) (new_at hp _) (by rw [List.length_nil]; omega)
  refine ⟨hp', ?_, Ext.new q3⟩
  simp only [body_326, a_sAsg, a_eS, a_eAll0, nL0, a_eV]
  rw [a_sWhile _ _ _ _ _ _ _ _ q1]
  rw [List.nil_append] at q3
  exact end_326 q2 q3.at_ (by rw [List.length_map]; omega)
theorem hash_326 {o r : List UInt8} {i s : Nat} {l : List Nat} {ls : Ls} (W : Win o i o.length (35 :: 52 :: 50 :: r)) (h1 : ls (S "octets") = some (.bytes o)) (h2 : ls (S "place") = some (.int (i : Int))) (h3 : ls (S "signs") = some (.ref s)) (hs : hp[s]? = some (.list (l.map ch))) (hl : l.length ≤ 1000) (m : Nat) :
    sWhile (tCmp2 (cmpV .Lt) (eLoc (S "place")) (e1S (callV (orc n sc (k + 1))) (eV (.bi .len)) [(eLoc (S "octets"))])) (sAll [(sAsg (S "code") (e2 idxV (eLoc (S "octets")) (eLoc (S "place")))), (sAsg (S "place") (e2 (binV .Add) (eLoc (S "place")) (eV (.int 1)))), (sIf (tAnd [(tCmp2 (cmpV .Eq) (eLoc (S "code")) (eV (.int 35))), (tCmp2 (cmpV .Lt) (e2 (binV .Add) (eLoc (S "place")) (eV (.int 1))) (e1S (callV (orc n sc (k + 1))) (eV (.bi .len)) [(eLoc (S "octets"))]))]) (sAll [(sAsg (S "high") (e1S (callV (orc n sc (k + 1))) (eV (.fn 311)) [(e2 idxV (eLoc (S "octets")) (eLoc (S "place")))])), (sAsg (S "low") (e1S (callV (orc n sc (k + 1))) (eV (.fn 311)) [(e2 idxV (eLoc (S "octets")) (e2 (binV .Add) (eLoc (S "place")) (eV (.int 1))))])), (sIf (tAnd [(tCmp2 (cmpV .GtE) (eLoc (S "high")) (eV (.int 0))), (tCmp2 (cmpV .GtE) (eLoc (S "low")) (eV (.int 0)))]) (sAll [(sAsg (S "code") (e2 (binV .Add) (e2 (binV .Mult) (eV (.int 16)) (eLoc (S "high"))) (eLoc (S "low")))), (sAsg (S "place") (e2 (binV .Add) (eLoc (S "place")) (eV (.int 2))))]) (sAll []))]) (sAll [])), (sIf (tCmp2 (cmpV .Eq) (eLoc (S "code")) (eV (.int 0))) (sAll [sNo]) (sAll [])), (sExpr (eMeth (orc n sc (k + 1)) (S "append") (eLoc (S "signs")) [(e1S (callV (orc n sc (k + 1))) (eV (.bi .chr)) [(eLoc (S "code"))])]))]) (m + 1) ls hp = sWhile (tCmp2 (cmpV .Lt) (eLoc (S "place")) (e1S (callV (orc n sc (k + 1))) (eV (.bi .len)) [(eLoc (S "octets"))])) (sAll [(sAsg (S "code") (e2 idxV (eLoc (S "octets")) (eLoc (S "place")))), (sAsg (S "place") (e2 (binV .Add) (eLoc (S "place")) (eV (.int 1)))), (sIf (tAnd [(tCmp2 (cmpV .Eq) (eLoc (S "code")) (eV (.int 35))), (tCmp2 (cmpV .Lt) (e2 (binV .Add) (eLoc (S "place")) (eV (.int 1))) (e1S (callV (orc n sc (k + 1))) (eV (.bi .len)) [(eLoc (S "octets"))]))]) (sAll [(sAsg (S "high") (e1S (callV (orc n sc (k + 1))) (eV (.fn 311)) [(e2 idxV (eLoc (S "octets")) (eLoc (S "place")))])), (sAsg (S "low") (e1S (callV (orc n sc (k + 1))) (eV (.fn 311)) [(e2 idxV (eLoc (S "octets")) (e2 (binV .Add) (eLoc (S "place")) (eV (.int 1))))])), (sIf (tAnd [(tCmp2 (cmpV .GtE) (eLoc (S "high")) (eV (.int 0))), (tCmp2 (cmpV .GtE) (eLoc (S "low")) (eV (.int 0)))]) (sAll [(sAsg (S "code") (e2 (binV .Add) (e2 (binV .Mult) (eV (.int 16)) (eLoc (S "high"))) (eLoc (S "low")))), (sAsg (S "place") (e2 (binV .Add) (eLoc (S "place")) (eV (.int 2))))]) (sAll []))]) (sAll [])), (sIf (tCmp2 (cmpV .Eq) (eLoc (S "code")) (eV (.int 0))) (sAll [sNo]) (sAll [])), (sExpr (eMeth (orc n sc (k + 1)) (S "append") (eLoc (S "signs")) [(e1S (callV (orc n sc (k + 1))) (eV (.bi .chr)) [(eLoc (S "code"))])]))]) m (bind1 (S "place") (.int ((i + 3 : Nat) : Int)) (bind1 (S "code") (.int 66) (bind1 (S "low") (.int 2) (bind1 (S "high") (.int 4) (bind1 (S "place") (.int ((i : Int) + 1)) (bind1 (S "code") (.int 35) ls)))))) (hp.set s (.list ((l ++ [66]).map ch))) := by
  have lt : ((i : Int) < (o.length : Int)) := by have := W.lt; omega
  have lt2 : ((i : Int) + 1 + 1 < (o.length : Int)) := by have := W.tail.tail.lt; omega
  have le := W.lim
  have w0 : idxV (.bytes o) (.int (i : Int)) hp = some (.int 35, hp) := W.idx hp
  have w1 : idxV (.bytes o) (.int ((i : Int) + 1)) hp = some (.int 52, hp) := W.tail.idx hp
  have w2 : idxV (.bytes o) (.int ((i : Int) + 1 + 1)) hp = some (.int 50, hp) := W.tail.tail.idx hp
  have ep : (i : Int) + 1 + 2 = ((i + 3 : Nat) : Int) := by omega
  have m16 : binV .Mult (.int 16) (.int 4) hp = some (.int 64, hp) := by rw [a_mul, if_pos ⟨by decide, (mulOk (t := 4) (l := 0) (by decide)).mpr trivial |>.2⟩]; rfl
  refine w_step (h1 := hp) ?_ ?_
  · simp only [a_sAll0, a_sExpr, a_sAsg, a_sIf, a_sRet, a_sCont, a_sOne, a_eV, a_eLoc, a_e1, a_e2, a_eAll0, a_eAll1, a_eS, a_e1S, a_eIf, a_eTr, a_eAnd1, a_eAnd2, a_tNot, a_tAnd0, a_tAnd1, a_tOr0, a_tOr1, a_tOf, a_tCmp2, a_tCmp3, a_eMeth, a_eO0, a_eO1, a_eCut, a_callF, a_callB, a_methF, ls1, ls2, ls3, ls4, a_bind, S_inj, String.reduceEq, reduceIte, a_fin1, a_fin2, a_fin3, Bool.not_true, Bool.not_false, a_trB, a_lt, a_le, a_gt, a_ge, a_eq, a_ne, a_add, a_sub, a_neg, a_mod, a_inW, a_niW, a_niD, decide_true, decide_false, nT2, nT3, nL0, nL1, a_eqB, a_eqS, a_neS, h1, h2, lt, a_lenB hp o (by omega)]
  · simp only [a_sIf, a_sAsg, a_e1, a_e2, a_e1S, a_eAll0, a_eAll1, a_callF, a_callB, a_eLoc, a_eV, a_tAnd0, a_tAnd1, a_tCmp2, a_add, a_eq, a_lt, a_ge, h1, h2, w0, w1, w2, hx52, hx50, lt2, a_lenB hp o (by omega), a_bind, S_inj, String.reduceEq, reduceIte, decide_true, decide_false, Int.reduceLE, Int.reduceEq, Int.reduceAdd, m16, ep, a_sAll0, a_then0]
    rw [sExpr_append (v := ch 66) (by simp only [a_sAll0, a_sExpr, a_sAsg, a_sIf, a_sRet, a_sCont, a_sOne, a_eV, a_eLoc, a_e1, a_e2, a_eAll0, a_eAll1, a_eS, a_e1S, a_eIf, a_eTr, a_eAnd1, a_eAnd2, a_tNot, a_tAnd0, a_tAnd1, a_tOr0, a_tOr1, a_tOf, a_tCmp2, a_tCmp3, a_eMeth, a_eO0, a_eO1, a_eCut, a_callF, a_callB, a_methF, ls1, ls2, ls3, ls4, a_bind, S_inj, String.reduceEq, reduceIte, a_fin1, a_fin2, a_fin3, Bool.not_true, Bool.not_false, a_trB, a_lt, a_le, a_gt, a_ge, a_eq, a_ne, a_add, a_sub, a_neg, a_mod, a_inW, a_niW, a_niD, decide_true, decide_false, nT2, nT3, nL0, nL1, a_eqB, a_eqS, a_neS, h3]) hs (by simp only [a_sAll0, a_sExpr, a_sAsg, a_sIf, a_sRet, a_sCont, a_sOne, a_eV, a_eLoc, a_e1, a_e2, a_eAll0, a_eAll1, a_eS, a_e1S, a_eIf, a_eTr, a_eAnd1, a_eAnd2, a_tNot, a_tAnd0, a_tAnd1, a_tOr0, a_tOr1, a_tOf, a_tCmp2, a_tCmp3, a_eMeth, a_eO0, a_eO1, a_eCut, a_callF, a_callB, a_methF, ls1, ls2, ls3, ls4, a_bind, S_inj, String.reduceEq, reduceIte, a_fin1, a_fin2, a_fin3, Bool.not_true, Bool.not_false, a_trB, a_lt, a_le, a_gt, a_ge, a_eq, a_ne, a_add, a_sub, a_neg, a_mod, a_inW, a_niW, a_niD, decide_true, decide_false, nT2, nT3, nL0, nL1, a_eqB, a_eqS, a_neS, a_chr _ (show 0 ≤ (66 : Int) ∧ (66 : Int) ≤ 1114111 by omega)]; rfl) hs (by rw [List.length_map]; omega), a_sAll0, List.map_append]
    rfl
theorem sp_326h {r : List UInt8} {v : V} (hy : r.all (fun x => x != 35 && x != 0) = true) (hl : r.length ≤ 100) (hn : 1000 ≤ n) : ∃ hp', orc n sc (k + 2) 326 [.bytes (65 :: 35 :: 52 :: 50 :: r), v] hp = some (.str ⟨(65 :: 66 :: r.map UInt8.toNat).toArray⟩, hp') ∧ Ext hp hp' := by
  rw [orc_def rfl rfl rfl (den_326 ..)]
  obtain ⟨n', rfl⟩ : ∃ n', n = n' + 2 := ⟨n - 2, by omega⟩
  have W : Win (65 :: 35 :: 52 :: 50 :: r) 0 (65 :: 35 :: 52 :: 50 :: r).length (65 :: 35 :: 52 :: 50 :: r) := ⟨by rw [List.take_length]; rfl, Nat.le_refl _, by simp only [List.length_cons]; omega, Nat.zero_le _⟩
  have s1 := step_326 (n := n' + 2) (sc := sc) (k := k) (hp := hp ++ [.list []]) (s := hp.length) (l := []) (ls := bind1 (S "place") (.int 0) (bind1 (S "signs") (.ref hp.length) (lsOf [(Str.ofString "octets", .bytes (65 :: 35 :: 52 :: 50 :: r)), (Str.ofString "at", v)]))) (by decide) W (by simp only [a_sAll0, a_sExpr, a_sAsg, a_sIf, a_sRet, a_sCont, a_sOne, a_eV, a_eLoc, a_e1, a_e2, a_eAll0, a_eAll1, a_eS, a_e1S, a_eIf, a_eTr, a_eAnd1, a_eAnd2, a_tNot, a_tAnd0, a_tAnd1, a_tOr0, a_tOr1, a_tOf, a_tCmp2, a_tCmp3, a_eMeth, a_eO0, a_eO1, a_eCut, a_callF, a_callB, a_methF, ls1, ls2, ls3, ls4, a_bind, S_inj, String.reduceEq, reduceIte, a_fin1, a_fin2, a_fin3, Bool.not_true, Bool.not_false, a_trB, a_lt, a_le, a_gt, a_ge, a_eq, a_ne, a_add, a_sub, a_neg, a_mod, a_inW, a_niW, a_niD, decide_true, decide_false, nT2, nT3, nL0, nL1, a_eqB, a_eqS, a_neS]) (by simp only [a_sAll0, a_sExpr, a_sAsg, a_sIf, a_sRet, a_sCont, a_sOne, a_eV, a_eLoc, a_e1, a_e2, a_eAll0, a_eAll1, a_eS, a_e1S, a_eIf, a_eTr, a_eAnd1, a_eAnd2, a_tNot, a_tAnd0, a_tAnd1, a_tOr0, a_tOr1, a_tOf, a_tCmp2, a_tCmp3, a_eMeth, a_eO0, a_eO1, a_eCut, a_callF, a_callB, a_methF, ls1, ls2, ls3, ls4, a_bind, S_inj, String.reduceEq, reduceIte, a_fin1, a_fin2, a_fin3, Bool.not_true, Bool.not_false, a_trB, a_lt, a_le, a_gt, a_ge, a_eq, a_ne, a_add, a_sub, a_neg, a_mod, a_inW, a_niW, a_niD, decide_true, decide_false, nT2, nT3, nL0, nL1, a_eqB, a_eqS, a_neS]; rfl) (by simp only [a_sAll0, a_sExpr, a_sAsg, a_sIf, a_sRet, a_sCont, a_sOne, a_eV, a_eLoc, a_e1, a_e2, a_eAll0, a_eAll1, a_eS, a_e1S, a_eIf, a_eTr, a_eAnd1, a_eAnd2, a_tNot, a_tAnd0, a_tAnd1, a_tOr0, a_tOr1, a_tOf, a_tCmp2, a_tCmp3, a_eMeth, a_eO0, a_eO1, a_eCut, a_callF, a_callB, a_methF, ls1, ls2, ls3, ls4, a_bind, S_inj, String.reduceEq, reduceIte, a_fin1, a_fin2, a_fin3, Bool.not_true, Bool.not_false, a_trB, a_lt, a_le, a_gt, a_ge, a_eq, a_ne, a_add, a_sub, a_neg, a_mod, a_inW, a_niW, a_niD, decide_true, decide_false, nT2, nT3, nL0, nL1, a_eqB, a_eqS, a_neS]) (new_at hp _) (by rw [List.length_nil]; omega) (n' + 1)
  have s2 := s1.trans (hash_326 W.tail (by simp only [a_sAll0, a_sExpr, a_sAsg, a_sIf, a_sRet, a_sCont, a_sOne, a_eV, a_eLoc, a_e1, a_e2, a_eAll0, a_eAll1, a_eS, a_e1S, a_eIf, a_eTr, a_eAnd1, a_eAnd2, a_tNot, a_tAnd0, a_tAnd1, a_tOr0, a_tOr1, a_tOf, a_tCmp2, a_tCmp3, a_eMeth, a_eO0, a_eO1, a_eCut, a_callF, a_callB, a_methF, ls1, ls2, ls3, ls4, a_bind, S_inj, String.reduceEq, reduceIte, a_fin1, a_fin2, a_fin3, Bool.not_true, Bool.not_false, a_trB, a_lt, a_le, a_gt, a_ge, a_eq, a_ne, a_add, a_sub, a_neg, a_mod, a_inW, a_niW, a_niD, decide_true, decide_false, nT2, nT3, nL0, nL1, a_eqB, a_eqS, a_neS]) (by simp only [a_sAll0, a_sExpr, a_sAsg, a_sIf, a_sRet, a_sCont, a_sOne, a_eV, a_eLoc, a_e1, a_e2, a_eAll0, a_eAll1, a_eS, a_e1S, a_eIf, a_eTr, a_eAnd1, a_eAnd2, a_tNot, a_tAnd0, a_tAnd1, a_tOr0, a_tOr1, a_tOf, a_tCmp2, a_tCmp3, a_eMeth, a_eO0, a_eO1, a_eCut, a_callF, a_callB, a_methF, ls1, ls2, ls3, ls4, a_bind, S_inj, String.reduceEq, reduceIte, a_fin1, a_fin2, a_fin3, Bool.not_true, Bool.not_false, a_trB, a_lt, a_le, a_gt, a_ge, a_eq, a_ne, a_add, a_sub, a_neg, a_mod, a_inW, a_niW, a_niD, decide_true, decide_false, nT2, nT3, nL0, nL1, a_eqB, a_eqS, a_neS]) (by simp only [a_sAll0, a_sExpr, a_sAsg, a_sIf, a_sRet, a_sCont, a_sOne, a_eV, a_eLoc, a_e1, a_e2, a_eAll0, a_eAll1, a_eS, a_e1S, a_eIf, a_eTr, a_eAnd1, a_eAnd2, a_tNot, a_tAnd0, a_tAnd1, a_tOr0, a_tOr1, a_tOf, a_tCmp2, a_tCmp3, a_eMeth, a_eO0, a_eO1, a_eCut, a_callF, a_callB, a_methF, ls1, ls2, ls3, ls4, a_bind, S_inj, String.reduceEq, reduceIte, a_fin1, a_fin2, a_fin3, Bool.not_true, Bool.not_false, a_trB, a_lt, a_le, a_gt, a_ge, a_eq, a_ne, a_add, a_sub, a_neg, a_mod, a_inW, a_niW, a_niD, decide_true, decide_false, nT2, nT3, nL0, nL1, a_eqB, a_eqS, a_neS]) (set_at (new_at hp _)) (by simp) n')
  obtain ⟨ls', hp', q1, q2, q3⟩ := loop_326 (n := n' + 2) (sc := sc) (k := k) (o := 65 :: 35 :: 52 :: 50 :: r) r 4 n' [65, 66] (bind1 (S "place") (.int ((0 + 1 + 3 : Nat) : Int)) (bind1 (S "code") (.int 66) (bind1 (S "low") (.int 2) (bind1 (S "high") (.int 4) (bind1 (S "place") (.int (((0 + 1 : Nat) : Int) + 1)) (bind1 (S "code") (.int 35) (bind1 (S "place") (.int ((0 + 1 : Nat) : Int)) (bind1 (S "code") (.int ((65 : UInt8).toNat : Int)) (bind1 (S "place") (.int 0) (bind1 (S "signs") (.ref hp.length) (lsOf [(Str.ofString "octets", .bytes (65 :: 35 :: 52 :: 50 :: r)), (Str.ofString "at", v)]))))))))))) _ (by omega) hy W.tail.tail.tail.tail (by simp only [a_sAll0, a_sExpr, a_sAsg, a_sIf, a_sRet, a_sCont, a_sOne, a_eV, a_eLoc, a_e1, a_e2, a_eAll0, a_eAll1, a_eS, a_e1S, a_eIf, a_eTr, a_eAnd1, a_eAnd2, a_tNot, a_tAnd0, a_tAnd1, a_tOr0, a_tOr1, a_tOf, a_tCmp2, a_tCmp3, a_eMeth, a_eO0, a_eO1, a_eCut, a_callF, a_callB, a_methF, ls1, ls2, ls3, ls4, a_bind, S_inj, String.reduceEq, reduceIte, a_fin1, a_fin2, a_fin3, Bool.not_true, Bool.not_false, a_trB, a_lt, a_le, a_gt, a_ge, a_eq, a_ne, a_add, a_sub, a_neg, a_mod, a_inW, a_niW, a_niD, decide_true, decide_false, nT2, nT3, nL0, nL1, a_eqB, a_eqS, a_neS]) (by simp only [a_sAll0, a_sExpr, a_sAsg, a_sIf, a_sRet, a_sCont, a_sOne, a_eV, a_eLoc, a_e1, a_e2, a_eAll0, a_eAll1, a_eS, a_e1S, a_eIf, a_eTr, a_eAnd1, a_eAnd2, a_tNot, a_tAnd0, a_tAnd1, a_tOr0, a_tOr1, a_tOf, a_tCmp2, a_tCmp3, a_eMeth, a_eO0, a_eO1, a_eCut, a_callF, a_callB, a_methF, ls1, ls2, ls3, ls4, a_bind, S_inj, String.reduceEq, reduceIte, a_fin1, a_fin2, a_fin3, Bool.not_true, Bool.not_false, a_trB, a_lt, a_le, a_gt, a_ge, a_eq, a_ne, a_add, a_sub, a_neg, a_mod, a_inW, a_niW, a_niD, decide_true, decide_false, nT2, nT3, nL0, nL1, a_eqB, a_eqS, a_neS]) (by simp only [a_sAll0, a_sExpr, a_sAsg, a_sIf, a_sRet, a_sCont, a_sOne, a_eV, a_eLoc, a_e1, a_e2, a_eAll0, a_eAll1, a_eS, a_e1S, a_eIf, a_eTr, a_eAnd1, a_eAnd2, a_tNot, a_tAnd0, a_tAnd1, a_tOr0, a_tOr1, a_tOf, a_tCmp2, a_tCmp3, a_eMeth, a_eO0, a_eO1, a_eCut, a_callF, a_callB, a_methF, ls1, ls2, ls3, ls4, a_bind, S_inj, String.reduceEq, reduceIte, a_fin1, a_fin2, a_fin3, Bool.not_true, Bool.not_false, a_trB, a_lt, a_le, a_gt, a_ge, a_eq, a_ne, a_add, a_sub, a_neg, a_mod, a_inW, a_niW, a_niD, decide_true, decide_false, nT2, nT3, nL0, nL1, a_eqB, a_eqS, a_neS]) (set_at (o := .list ([65].map ch)) (set_at (new_at hp (.list [])))) (by rw [List.length_cons, List.length_cons, List.length_nil]; omega)
  have s3 := s2.trans q1
  refine ⟨hp', ?_, Ext.new (((St.set (o' := .list ([65].map ch)) (new_at hp (.list []))).trans (St.set (o' := .list ([65, 66].map ch)) (set_at (new_at hp _)))).trans q3)⟩
  simp only [body_326, a_sAsg, a_eS, a_eAll0, nL0, a_eV]
  rw [a_sWhile _ _ _ _ _ _ _ _ s3]
  exact end_326 q2 q3.at_ (by simp only [List.length_append, List.length_map, List.length_cons, List.length_nil]; omega)
end
end Mine

open PySem PySem.W PyProof.Rows PySem.Calls
set_option Elab.async false
set_option maxRecDepth 100000
set_option maxHeartbeats 1000000
set_option linter.all false
namespace Mine
section
variable {n : Nat} {sc : Addr × List Int} {k : Nat} {hp : Hp} {c : Nat} {d w : List UInt8} {a e : Nat}
theorem mulS (a b : Int) (hp : Hp) (ha : a.natAbs < 2 ^ 60) (hb : b.natAbs < 2 ^ 60) : binV .Mult (.int a) (.int b) hp = some (.int (a * b), hp) := by
  rw [a_mul, if_pos ⟨ha, Nat.lt_of_lt_of_le hb (Nat.pow_le_pow_right (by decide) (by decide))⟩]
theorem step_333 {x : UInt8} {q t : Int} {ls : Ls} (h : hp[c]? = some (cur d a e)) (W : Win d a e (x :: w)) (x1 : 48 ≤ (x.toNat : Int)) (x2 : (x.toNat : Int) ≤ 55) (ht : t < 3) (hq : q.natAbs < 2 ^ 60) (h1 : ls (S "cursor") = some (.ref c)) (h2 : ls (S "code") = some (.int q)) (h3 : ls (S "taken") = some (.int t)) (m : Nat) :
    sWhile (tAnd [(tCmp2 (cmpV .Lt) (eLoc (S "taken")) (eV (.int 3))), (tCmp3 (cmpV .LtE) (cmpV .LtE) (eV (.int 48)) (eMeth (orc n sc (k + 1)) (S "peek") (eLoc (S "cursor")) []) (eV (.int 55)))]) (sAll [(sAsg (S "code") (e2 (binV .Sub) (e2 (binV .Add) (e2 (binV .Mult) (eV (.int 8)) (eLoc (S "code"))) (eMeth (orc n sc (k + 1)) (S "take") (eLoc (S "cursor")) [])) (eV (.int 48)))), (sAsg (S "taken") (e2 (binV .Add) (eLoc (S "taken")) (eV (.int 1))))]) (m + 1) ls hp = sWhile (tAnd [(tCmp2 (cmpV .Lt) (eLoc (S "taken")) (eV (.int 3))), (tCmp3 (cmpV .LtE) (cmpV .LtE) (eV (.int 48)) (eMeth (orc n sc (k + 1)) (S "peek") (eLoc (S "cursor")) []) (eV (.int 55)))]) (sAll [(sAsg (S "code") (e2 (binV .Sub) (e2 (binV .Add) (e2 (binV .Mult) (eV (.int 8)) (eLoc (S "code"))) (eMeth (orc n sc (k + 1)) (S "take") (eLoc (S "cursor")) [])) (eV (.int 48)))), (sAsg (S "taken") (e2 (binV .Add) (eLoc (S "taken")) (eV (.int 1))))]) m (bind1 (S "taken") (.int (t + 1)) (bind1 (S "code") (.int (8 * q + (x.toNat : Int) - 48)) ls)) (hp.set c (cur d ((a + 1 : Nat) : Int) e)) := by
  refine w_step (h1 := hp) ?_ ?_
  · simp only [a_sAll0, a_sExpr, a_sAsg, a_sIf, a_sRet, a_sCont, a_sOne, a_eV, a_eLoc, a_e1, a_e2, a_eAll0, a_eAll1, a_eS, a_e1S, a_eIf, a_eTr, a_eAnd1, a_eAnd2, a_tNot, a_tAnd0, a_tAnd1, a_tOr0, a_tOr1, a_tOf, a_tCmp2, a_tCmp3, a_eMeth, a_eO0, a_eO1, a_eCut, a_callF, a_callB, a_methF, ls1, ls2, ls3, ls4, a_bind, S_inj, String.reduceEq, reduceIte, a_fin1, a_fin2, a_fin3, Bool.not_true, Bool.not_false, a_trB, a_lt, a_le, a_gt, a_ge, a_eq, a_ne, a_add, a_sub, a_neg, a_mod, a_inW, a_niW, a_niD, decide_true, decide_false, nT2, nT3, nL0, nL1, a_eqB, a_eqS, a_neS, h1, h3, ht, x1, x2, me_peek h, sp_114 h W]
  · simp only [a_sAll0, a_sExpr, a_sAsg, a_sIf, a_sRet, a_sCont, a_sOne, a_eV, a_eLoc, a_e1, a_e2, a_eAll0, a_eAll1, a_eS, a_e1S, a_eIf, a_eTr, a_eAnd1, a_eAnd2, a_tNot, a_tAnd0, a_tAnd1, a_tOr0, a_tOr1, a_tOf, a_tCmp2, a_tCmp3, a_eMeth, a_eO0, a_eO1, a_eCut, a_callF, a_callB, a_methF, ls1, ls2, ls3, ls4, a_bind, S_inj, String.reduceEq, reduceIte, a_fin1, a_fin2, a_fin3, Bool.not_true, Bool.not_false, a_trB, a_lt, a_le, a_gt, a_ge, a_eq, a_ne, a_add, a_sub, a_neg, a_mod, a_inW, a_niW, a_niD, decide_true, decide_false, nT2, nT3, nL0, nL1, a_eqB, a_eqS, a_neS, h1, h2, h3, mulS 8 q hp (by decide) hq, me_take h, sp_121 h W]
theorem sp_333 (h : hp[c]? = some (cur d a e)) (W : Win d a e (48 :: 49 :: w)) (hn : 100 ≤ n) : ∃ hp', orc n sc (k + 2) 333 [.ref c, .int 49] hp = some (.int 65, hp') ∧ St c (cur d ((a + 2 : Nat) : Int) e) hp hp' := by
  have st := (St.set (o' := cur d ((a + 1 : Nat) : Int) e) h)
  have st2 := st.trans (St.set (o' := cur d ((a + 1 + 1 : Nat) : Int) e) st.at_)
  refine ⟨_, ?_, st2⟩
  obtain ⟨n', rfl⟩ : ∃ n', n = n' + 3 := ⟨n - 3, by omega⟩
  rw [orc_def rfl rfl rfl (den_333 ..)]
  have s1 := step_333 (n := n' + 3) (sc := sc) (k := k) (ls := bind1 (S "taken") (.int 1) (bind1 (S "code") (.int 1) (lsOf [(Str.ofString "cursor", .ref c), (Str.ofString "first", .int 49)]))) h W (by decide) (by decide) (by decide) (q := 1) (t := 1) (by decide) (by simp only [a_sAll0, a_sExpr, a_sAsg, a_sIf, a_sRet, a_sCont, a_sOne, a_eV, a_eLoc, a_e1, a_e2, a_eAll0, a_eAll1, a_eS, a_e1S, a_eIf, a_eTr, a_eAnd1, a_eAnd2, a_tNot, a_tAnd0, a_tAnd1, a_tOr0, a_tOr1, a_tOf, a_tCmp2, a_tCmp3, a_eMeth, a_eO0, a_eO1, a_eCut, a_callF, a_callB, a_methF, ls1, ls2, ls3, ls4, a_bind, S_inj, String.reduceEq, reduceIte, a_fin1, a_fin2, a_fin3, Bool.not_true, Bool.not_false, a_trB, a_lt, a_le, a_gt, a_ge, a_eq, a_ne, a_add, a_sub, a_neg, a_mod, a_inW, a_niW, a_niD, decide_true, decide_false, nT2, nT3, nL0, nL1, a_eqB, a_eqS, a_neS]) (by simp only [a_sAll0, a_sExpr, a_sAsg, a_sIf, a_sRet, a_sCont, a_sOne, a_eV, a_eLoc, a_e1, a_e2, a_eAll0, a_eAll1, a_eS, a_e1S, a_eIf, a_eTr, a_eAnd1, a_eAnd2, a_tNot, a_tAnd0, a_tAnd1, a_tOr0, a_tOr1, a_tOf, a_tCmp2, a_tCmp3, a_eMeth, a_eO0, a_eO1, a_eCut, a_callF, a_callB, a_methF, ls1, ls2, ls3, ls4, a_bind, S_inj, String.reduceEq, reduceIte, a_fin1, a_fin2, a_fin3, Bool.not_true, Bool.not_false, a_trB, a_lt, a_le, a_gt, a_ge, a_eq, a_ne, a_add, a_sub, a_neg, a_mod, a_inW, a_niW, a_niD, decide_true, decide_false, nT2, nT3, nL0, nL1, a_eqB, a_eqS, a_neS]) (by simp only [a_sAll0, a_sExpr, a_sAsg, a_sIf, a_sRet, a_sCont, a_sOne, a_eV, a_eLoc, a_e1, a_e2, a_eAll0, a_eAll1, a_eS, a_e1S, a_eIf, a_eTr, a_eAnd1, a_eAnd2, a_tNot, a_tAnd0, a_tAnd1, a_tOr0, a_tOr1, a_tOf, a_tCmp2, a_tCmp3, a_eMeth, a_eO0, a_eO1, a_eCut, a_callF, a_callB, a_methF, ls1, ls2, ls3, ls4, a_bind, S_inj, String.reduceEq, reduceIte, a_fin1, a_fin2, a_fin3, Bool.not_true, Bool.not_false, a_trB, a_lt, a_le, a_gt, a_ge, a_eq, a_ne, a_add, a_sub, a_neg, a_mod, a_inW, a_niW, a_niD, decide_true, decide_false, nT2, nT3, nL0, nL1, a_eqB, a_eqS, a_neS]) (n' + 2)
  have s2 := s1.trans (step_333 (n := n' + 3) (sc := sc) (k := k) st.at_ W.tail (by decide) (by decide) (q := 8) (t := 2) (by decide) (by decide) (by simp only [a_sAll0, a_sExpr, a_sAsg, a_sIf, a_sRet, a_sCont, a_sOne, a_eV, a_eLoc, a_e1, a_e2, a_eAll0, a_eAll1, a_eS, a_e1S, a_eIf, a_eTr, a_eAnd1, a_eAnd2, a_tNot, a_tAnd0, a_tAnd1, a_tOr0, a_tOr1, a_tOf, a_tCmp2, a_tCmp3, a_eMeth, a_eO0, a_eO1, a_eCut, a_callF, a_callB, a_methF, ls1, ls2, ls3, ls4, a_bind, S_inj, String.reduceEq, reduceIte, a_fin1, a_fin2, a_fin3, Bool.not_true, Bool.not_false, a_trB, a_lt, a_le, a_gt, a_ge, a_eq, a_ne, a_add, a_sub, a_neg, a_mod, a_inW, a_niW, a_niD, decide_true, decide_false, nT2, nT3, nL0, nL1, a_eqB, a_eqS, a_neS]) (by simp only [a_sAll0, a_sExpr, a_sAsg, a_sIf, a_sRet, a_sCont, a_sOne, a_eV, a_eLoc, a_e1, a_e2, a_eAll0, a_eAll1, a_eS, a_e1S, a_eIf, a_eTr, a_eAnd1, a_eAnd2, a_tNot, a_tAnd0, a_tAnd1, a_tOr0, a_tOr1, a_tOf, a_tCmp2, a_tCmp3, a_eMeth, a_eO0, a_eO1, a_eCut, a_callF, a_callB, a_methF, ls1, ls2, ls3, ls4, a_bind, S_inj, String.reduceEq, reduceIte, a_fin1, a_fin2, a_fin3, Bool.not_true, Bool.not_false, a_trB, a_lt, a_le, a_gt, a_ge, a_eq, a_ne, a_add, a_sub, a_neg, a_mod, a_inW, a_niW, a_niD, decide_true, decide_false, nT2, nT3, nL0, nL1, a_eqB, a_eqS, a_neS]; rfl) (by simp only [a_sAll0, a_sExpr, a_sAsg, a_sIf, a_sRet, a_sCont, a_sOne, a_eV, a_eLoc, a_e1, a_e2, a_eAll0, a_eAll1, a_eS, a_e1S, a_eIf, a_eTr, a_eAnd1, a_eAnd2, a_tNot, a_tAnd0, a_tAnd1, a_tOr0, a_tOr1, a_tOf, a_tCmp2, a_tCmp3, a_eMeth, a_eO0, a_eO1, a_eCut, a_callF, a_callB, a_methF, ls1, ls2, ls3, ls4, a_bind, S_inj, String.reduceEq, reduceIte, a_fin1, a_fin2, a_fin3, Bool.not_true, Bool.not_false, a_trB, a_lt, a_le, a_gt, a_ge, a_eq, a_ne, a_add, a_sub, a_neg, a_mod, a_inW, a_niW, a_niD, decide_true, decide_false, nT2, nT3, nL0, nL1, a_eqB, a_eqS, a_neS]; rfl) (n' + 1))
  have s3 := s2.trans (w_stop (h1 := (hp.set c (cur d ((a + 1 : Nat) : Int) e)).set c (cur d ((a + 1 + 1 : Nat) : Int) e)) (by
    have e3 : ¬ ((2 : Int) + 1 < 3) := by decide
    simp only [a_sAll0, a_sExpr, a_sAsg, a_sIf, a_sRet, a_sCont, a_sOne, a_eV, a_eLoc, a_e1, a_e2, a_eAll0, a_eAll1, a_eS, a_e1S, a_eIf, a_eTr, a_eAnd1, a_eAnd2, a_tNot, a_tAnd0, a_tAnd1, a_tOr0, a_tOr1, a_tOf, a_tCmp2, a_tCmp3, a_eMeth, a_eO0, a_eO1, a_eCut, a_callF, a_callB, a_methF, ls1, ls2, ls3, ls4, a_bind, S_inj, String.reduceEq, reduceIte, a_fin1, a_fin2, a_fin3, Bool.not_true, Bool.not_false, a_trB, a_lt, a_le, a_gt, a_ge, a_eq, a_ne, a_add, a_sub, a_neg, a_mod, a_inW, a_niW, a_niD, decide_true, decide_false, nT2, nT3, nL0, nL1, a_eqB, a_eqS, a_neS, e3]))
  simp only [body_333, a_sAsg, a_e2, a_eLoc, a_eV, a_sub, ls2, S_inj, String.reduceEq, reduceIte, Int.reduceSub]
  rw [a_sWhile _ _ _ _ _ _ _ _ s3]
  simp only [a_sAll0, a_sExpr, a_sAsg, a_sIf, a_sRet, a_sCont, a_sOne, a_eV, a_eLoc, a_e1, a_e2, a_eAll0, a_eAll1, a_eS, a_e1S, a_eIf, a_eTr, a_eAnd1, a_eAnd2, a_tNot, a_tAnd0, a_tAnd1, a_tOr0, a_tOr1, a_tOf, a_tCmp2, a_tCmp3, a_eMeth, a_eO0, a_eO1, a_eCut, a_callF, a_callB, a_methF, ls1, ls2, ls3, ls4, a_bind, S_inj, String.reduceEq, reduceIte, a_fin1, a_fin2, a_fin3, Bool.not_true, Bool.not_false, a_trB, a_lt, a_le, a_gt, a_ge, a_eq, a_ne, a_add, a_sub, a_neg, a_mod, a_inW, a_niW, a_niD, decide_true, decide_false, nT2, nT3, nL0, nL1, a_eqB, a_eqS, a_neS]
  rfl
noncomputable def iv (q : Nat) : V := .int (q : Int)
theorem pe41 : orc n sc (k + 1) 318 [.int 41] hp = some (.int 41, hp) := by
  rw [orc_def rfl rfl rfl (den_318 ..)]
  simp only [body_318, a_sIf, a_sAll0, a_sExpr, a_sAsg, a_sIf, a_sRet, a_sCont, a_sOne, a_eV, a_eLoc, a_e1, a_e2, a_eAll0, a_eAll1, a_eS, a_e1S, a_eIf, a_eTr, a_eAnd1, a_eAnd2, a_tNot, a_tAnd0, a_tAnd1, a_tOr0, a_tOr1, a_tOf, a_tCmp2, a_tCmp3, a_eMeth, a_eO0, a_eO1, a_eCut, a_callF, a_callB, a_methF, ls1, ls2, ls3, ls4, a_bind, S_inj, String.reduceEq, reduceIte, a_fin1, a_fin2, a_fin3, Bool.not_true, Bool.not_false, a_trB, a_lt, a_le, a_gt, a_ge, a_eq, a_ne, a_add, a_sub, a_neg, a_mod, a_inW, a_niW, a_niD, decide_true, decide_false, nT2, nT3, nL0, nL1, a_eqB, a_eqS, a_neS, Int.reduceEq, a_then0]
theorem sp_340a (h : hp[c]? = some (cur d a e)) (W : Win d a e (41 :: w)) : ∃ j hp', orc n sc (k + 3) 340 [.ref c] hp = some (.ref j, hp') ∧ St c (cur d ((a + 1 : Nat) : Int) e) hp hp' ∧ hp'[j]? = some (.list ([41].map iv)) := by
  have st := (St.set (o' := cur d ((a + 1 : Nat) : Int) e) h)
  refine ⟨_, _, ?_, st.trans (St.push st.at_ _), new_at _ _⟩
  rw [orc_def rfl rfl rfl (den_340 ..)]
  have t := sp_121 (n := n) (sc := sc) (k := k + 1) h W
  rw [show ((41 : UInt8).toNat : Int) = 41 from rfl] at t
  simp only [body_340, a_sIf, a_sAll0, a_sExpr, a_sAsg, a_sIf, a_sRet, a_sCont, a_sOne, a_eV, a_eLoc, a_e1, a_e2, a_eAll0, a_eAll1, a_eS, a_e1S, a_eIf, a_eTr, a_eAnd1, a_eAnd2, a_tNot, a_tAnd0, a_tAnd1, a_tOr0, a_tOr1, a_tOf, a_tCmp2, a_tCmp3, a_eMeth, a_eO0, a_eO1, a_eCut, a_callF, a_callB, a_methF, ls1, ls2, ls3, ls4, a_bind, S_inj, String.reduceEq, reduceIte, a_fin1, a_fin2, a_fin3, Bool.not_true, Bool.not_false, a_trB, a_lt, a_le, a_gt, a_ge, a_eq, a_ne, a_add, a_sub, a_neg, a_mod, a_inW, a_niW, a_niD, decide_true, decide_false, nT2, nT3, nL0, nL1, a_eqB, a_eqS, a_neS, me_done h, me_line h, me_take h, sp_106f h W, sp_156f h W (by decide) (by decide), t, Int.reduceLE, pe41, a_then0]
  rfl
theorem sp_340b (h : hp[c]? = some (cur d a e)) (W : Win d a e (49 :: 48 :: 49 :: w)) (hn : 100 ≤ n) : ∃ j hp', orc n sc (k + 3) 340 [.ref c] hp = some (.ref j, hp') ∧ St c (cur d ((a + 3 : Nat) : Int) e) hp hp' ∧ hp'[j]? = some (.list ([65].map iv)) := by
  have st := (St.set (o' := cur d ((a + 1 : Nat) : Int) e) h)
  obtain ⟨hp', q, z⟩ := sp_333 (n := n) (sc := sc) (k := k) st.at_ W.tail hn
  refine ⟨_, _, ?_, (st.trans z).trans (St.push z.at_ _), new_at _ _⟩
  rw [orc_def rfl rfl rfl (den_340 ..)]
  have t := sp_121 (n := n) (sc := sc) (k := k + 1) h W
  rw [show ((49 : UInt8).toNat : Int) = 49 from rfl] at t
  simp only [body_340, a_sIf, a_sAll0, a_sExpr, a_sAsg, a_sIf, a_sRet, a_sCont, a_sOne, a_eV, a_eLoc, a_e1, a_e2, a_eAll0, a_eAll1, a_eS, a_e1S, a_eIf, a_eTr, a_eAnd1, a_eAnd2, a_tNot, a_tAnd0, a_tAnd1, a_tOr0, a_tOr1, a_tOf, a_tCmp2, a_tCmp3, a_eMeth, a_eO0, a_eO1, a_eCut, a_callF, a_callB, a_methF, ls1, ls2, ls3, ls4, a_bind, S_inj, String.reduceEq, reduceIte, a_fin1, a_fin2, a_fin3, Bool.not_true, Bool.not_false, a_trB, a_lt, a_le, a_gt, a_ge, a_eq, a_ne, a_add, a_sub, a_neg, a_mod, a_inW, a_niW, a_niD, decide_true, decide_false, nT2, nT3, nL0, nL1, a_eqB, a_eqS, a_neS, me_done h, me_line h, me_take h, sp_106f h W, sp_156f h W (by decide) (by decide), t, Int.reduceLE, q, a_then0, a_then1]
  rfl
theorem sp_340c (h : hp[c]? = some (cur d a e)) (W : Win d a e (10 :: w)) : ∃ j hp', orc n sc (k + 3) 340 [.ref c] hp = some (.ref j, hp') ∧ St c (cur d ((a + 1 : Nat) : Int) e) hp hp' ∧ hp'[j]? = some (.list ([].map iv)) := by
  have st := (St.set (o' := cur d ((a + 1 : Nat) : Int) e) h)
  refine ⟨_, _, ?_, st.trans (St.push st.at_ _), new_at _ _⟩
  rw [orc_def rfl rfl rfl (den_340 ..)]
  simp only [body_340, a_sIf, a_sAll0, a_sExpr, a_sAsg, a_sIf, a_sRet, a_sCont, a_sOne, a_eV, a_eLoc, a_e1, a_e2, a_eAll0, a_eAll1, a_eS, a_e1S, a_eIf, a_eTr, a_eAnd1, a_eAnd2, a_tNot, a_tAnd0, a_tAnd1, a_tOr0, a_tOr1, a_tOf, a_tCmp2, a_tCmp3, a_eMeth, a_eO0, a_eO1, a_eCut, a_callF, a_callB, a_methF, ls1, ls2, ls3, ls4, a_bind, S_inj, String.reduceEq, reduceIte, a_fin1, a_fin2, a_fin3, Bool.not_true, Bool.not_false, a_trB, a_lt, a_le, a_gt, a_ge, a_eq, a_ne, a_add, a_sub, a_neg, a_mod, a_inW, a_niW, a_niD, decide_true, decide_false, nT2, nT3, nL0, nL1, a_eqB, a_eqS, a_neS, me_done h, me_line h, sp_106f h W, sp_156t h W, a_then0, a_then1]
  rfl
/-- literal's names -/
structure LS (ls : Ls) (c s : Nat) (t : Int) : Prop where
  cu : ls (S "cursor") = some (.ref c)
  co : ls (S "codes") = some (.ref s)
  de : ls (S "depth") = some (.int t)
/-- a cursor and a list move, the rest stays -/
structure S2 (c : Nat) (o : O) (s : Nat) (o2 : O) (hp hp' : Hp) : Prop where
  at1 : hp'[c]? = some o
  at2 : hp'[s]? = some o2
  keep : ∀ i x, i ≠ c → i ≠ s → hp[i]? = some x → hp'[i]? = some x
theorem S2.trans {c s : Nat} {o1 o2 p1 p2 : O} {h0 h1 h2 : Hp} (A : S2 c o1 s p1 h0 h1) (B : S2 c o2 s p2 h1 h2) : S2 c o2 s p2 h0 h2 := ⟨B.at1, B.at2, fun i x hi hj e => B.keep i x hi hj (A.keep i x hi hj e)⟩
theorem S2.of {c s : Nat} {o1 p2 : O} {h0 h1 h2 : Hp} (ne : c ≠ s) (A : St c o1 h0 h1) (B : St s p2 h1 h2) : S2 c o1 s p2 h0 h2 := ⟨B.keep _ _ ne A.at_, B.at_, fun i x hi hj e => B.keep i x hj (A.keep i x hi e)⟩
theorem S2.st {c : Nat} {o p p2 : O} {hp hp' : Hp} (A : S2 c o hp.length p2 (hp ++ [p]) hp') : St c o hp hp' := ⟨A.at1, fun i x hi e => A.keep i x hi (Nat.ne_of_lt (lt_of_at e)) (Ext.push hp _ i x e)⟩
theorem plain_347 {x : UInt8} {ls : Ls} {s : Nat} {l : List Nat} {t : Int} (L : LS ls c s t) (ne : c ≠ s) (h : hp[c]? = some (cur d a e)) (hs : hp[s]? = some (.list (l.map iv))) (hl : l.length ≤ 1000) (W : Win d a e (x :: w)) (hx : x ≠ 10 ∧ x ≠ 13 ∧ x ≠ 92 ∧ x ≠ 41) :
    ∃ ls' hp', (∀ m, sWhile (tNot (tOf (eMeth (orc n sc (k + 3)) (S "is_done") (eLoc (S "cursor")) []) trV)) (sAll [(sIf (tOf (eMeth (orc n sc (k + 3)) (S "skip_line_end") (eLoc (S "cursor")) []) trV) (sAll [(sExpr (eMeth (orc n sc (k + 3)) (S "append") (eLoc (S "codes")) [(eV (.int 10))])), sCont]) (sAll [])), (sAsg (S "code") (eMeth (orc n sc (k + 3)) (S "take") (eLoc (S "cursor")) [])), (sIf (tCmp2 (cmpV .Eq) (eLoc (S "code")) (eV (.int 92))) (sAll [(sExpr (eMeth (orc n sc (k + 3)) (S "extend") (eLoc (S "codes")) [(e1S (callV (orc n sc (k + 3))) (eV (.fn 340)) [(eLoc (S "cursor"))])])), sCont]) (sAll [])), (sIf (tCmp2 (cmpV .Eq) (eLoc (S "code")) (eV (.int 40))) (sAll [(sAsg (S "depth") (e2 (binV .Add) (eLoc (S "depth")) (eV (.int 1))))]) (sAll [])), (sIf (tCmp2 (cmpV .Eq) (eLoc (S "code")) (eV (.int 41))) (sAll [(sAsg (S "depth") (e2 (binV .Sub) (eLoc (S "depth")) (eV (.int 1)))), (sIf (tCmp2 (cmpV .Eq) (eLoc (S "depth")) (eV (.int 0))) (sAll [(sRet (e1S (callV (orc n sc (k + 3))) (eV (.bi .bytes)) [(eLoc (S "codes"))]))]) (sAll []))]) (sAll [])), (sExpr (eMeth (orc n sc (k + 3)) (S "append") (eLoc (S "codes")) [(eLoc (S "code"))]))]) (m + 1) ls hp = sWhile (tNot (tOf (eMeth (orc n sc (k + 3)) (S "is_done") (eLoc (S "cursor")) []) trV)) (sAll [(sIf (tOf (eMeth (orc n sc (k + 3)) (S "skip_line_end") (eLoc (S "cursor")) []) trV) (sAll [(sExpr (eMeth (orc n sc (k + 3)) (S "append") (eLoc (S "codes")) [(eV (.int 10))])), sCont]) (sAll [])), (sAsg (S "code") (eMeth (orc n sc (k + 3)) (S "take") (eLoc (S "cursor")) [])), (sIf (tCmp2 (cmpV .Eq) (eLoc (S "code")) (eV (.int 92))) (sAll [(sExpr (eMeth (orc n sc (k + 3)) (S "extend") (eLoc (S "codes")) [(e1S (callV (orc n sc (k + 3))) (eV (.fn 340)) [(eLoc (S "cursor"))])])), sCont]) (sAll [])), (sIf (tCmp2 (cmpV .Eq) (eLoc (S "code")) (eV (.int 40))) (sAll [(sAsg (S "depth") (e2 (binV .Add) (eLoc (S "depth")) (eV (.int 1))))]) (sAll [])), (sIf (tCmp2 (cmpV .Eq) (eLoc (S "code")) (eV (.int 41))) (sAll [(sAsg (S "depth") (e2 (binV .Sub) (eLoc (S "depth")) (eV (.int 1)))), (sIf (tCmp2 (cmpV .Eq) (eLoc (S "depth")) (eV (.int 0))) (sAll [(sRet (e1S (callV (orc n sc (k + 3))) (eV (.bi .bytes)) [(eLoc (S "codes"))]))]) (sAll []))]) (sAll [])), (sExpr (eMeth (orc n sc (k + 3)) (S "append") (eLoc (S "codes")) [(eLoc (S "code"))]))]) m ls' hp') ∧ LS ls' c s (if x = 40 then t + 1 else t) ∧ S2 c (cur d ((a + 1 : Nat) : Int) e) s (.list ((l ++ [x.toNat]).map iv)) hp hp' := by
  have st := (St.set (o' := cur d ((a + 1 : Nat) : Int) e) h)
  have hs1 := st.keep _ _ (Ne.symm ne) hs
  have sz := S2.of ne st (St.set (o' := .list ((l ++ [x.toNat]).map iv)) hs1)
  have e1 : ¬ ((x.toNat : Int) = 92) := fun q => hx.2.2.1 (UInt8.toNat_inj.mp (by show x.toNat = 92; omega))
  have e2 : ¬ ((x.toNat : Int) = 41) := fun q => hx.2.2.2 (UInt8.toNat_inj.mp (by show x.toNat = 41; omega))
  by_cases g : x = 40
  · subst g
    refine ⟨_, _, fun m => w_step (h1 := hp) (l2 := bind1 (S "depth") (.int (t + 1)) (bind1 (S "code") (.int ((40 : UInt8).toNat : Int)) ls)) (h2 := _) ?_ ?_, ⟨?_, ?_, ?_⟩, sz⟩
    · simp only [a_sAll0, a_sExpr, a_sAsg, a_sIf, a_sRet, a_sCont, a_sOne, a_eV, a_eLoc, a_e1, a_e2, a_eAll0, a_eAll1, a_eS, a_e1S, a_eIf, a_eTr, a_eAnd1, a_eAnd2, a_tNot, a_tAnd0, a_tAnd1, a_tOr0, a_tOr1, a_tOf, a_tCmp2, a_tCmp3, a_eMeth, a_eO0, a_eO1, a_eCut, a_callF, a_callB, a_methF, ls1, ls2, ls3, ls4, a_bind, S_inj, String.reduceEq, reduceIte, a_fin1, a_fin2, a_fin3, Bool.not_true, Bool.not_false, a_trB, a_lt, a_le, a_gt, a_ge, a_eq, a_ne, a_add, a_sub, a_neg, a_mod, a_inW, a_niW, a_niD, decide_true, decide_false, nT2, nT3, nL0, nL1, a_eqB, a_eqS, a_neS, L.cu, me_done h, sp_106f h W]
    · simp only [a_sIf, a_sAll0, a_sAsg, a_sIf, a_sRet, a_sCont, a_sOne, a_eV, a_eLoc, a_e1, a_e2, a_eAll0, a_eAll1, a_eS, a_e1S, a_eIf, a_eTr, a_eAnd1, a_eAnd2, a_tNot, a_tAnd0, a_tAnd1, a_tOr0, a_tOr1, a_tOf, a_tCmp2, a_tCmp3, a_eMeth, a_eO0, a_eO1, a_eCut, a_callF, a_callB, a_methF, ls1, ls2, ls3, ls4, a_bind, S_inj, String.reduceEq, reduceIte, a_fin1, a_fin2, a_fin3, Bool.not_true, Bool.not_false, a_trB, a_lt, a_le, a_gt, a_ge, a_eq, a_ne, a_add, a_sub, a_neg, a_mod, a_inW, a_niW, a_niD, decide_true, decide_false, nT2, nT3, nL0, nL1, a_eqB, a_eqS, a_neS, L.cu, L.de, me_line h, sp_156f h W hx.1 hx.2.1, me_take h, sp_121 h W, e1, e2, a_then0]
      have e3 : ((40 : UInt8).toNat : Int) = 40 := rfl
      simp only [e3, a_sAll0, a_sAsg, a_sIf, a_sRet, a_sCont, a_sOne, a_eV, a_eLoc, a_e1, a_e2, a_eAll0, a_eAll1, a_eS, a_e1S, a_eIf, a_eTr, a_eAnd1, a_eAnd2, a_tNot, a_tAnd0, a_tAnd1, a_tOr0, a_tOr1, a_tOf, a_tCmp2, a_tCmp3, a_eMeth, a_eO0, a_eO1, a_eCut, a_callF, a_callB, a_methF, ls1, ls2, ls3, ls4, a_bind, S_inj, String.reduceEq, reduceIte, a_fin1, a_fin2, a_fin3, Bool.not_true, Bool.not_false, a_trB, a_lt, a_le, a_gt, a_ge, a_eq, a_ne, a_add, a_sub, a_neg, a_mod, a_inW, a_niW, a_niD, decide_true, decide_false, nT2, nT3, nL0, nL1, a_eqB, a_eqS, a_neS, L.de, a_then0]
      rw [sExpr_append (v := iv 40) (by simp only [a_sAll0, a_sExpr, a_sAsg, a_sIf, a_sRet, a_sCont, a_sOne, a_eV, a_eLoc, a_e1, a_e2, a_eAll0, a_eAll1, a_eS, a_e1S, a_eIf, a_eTr, a_eAnd1, a_eAnd2, a_tNot, a_tAnd0, a_tAnd1, a_tOr0, a_tOr1, a_tOf, a_tCmp2, a_tCmp3, a_eMeth, a_eO0, a_eO1, a_eCut, a_callF, a_callB, a_methF, ls1, ls2, ls3, ls4, a_bind, S_inj, String.reduceEq, reduceIte, a_fin1, a_fin2, a_fin3, Bool.not_true, Bool.not_false, a_trB, a_lt, a_le, a_gt, a_ge, a_eq, a_ne, a_add, a_sub, a_neg, a_mod, a_inW, a_niW, a_niD, decide_true, decide_false, nT2, nT3, nL0, nL1, a_eqB, a_eqS, a_neS, L.co]) hs1 (by simp only [a_sAll0, a_sExpr, a_sAsg, a_sIf, a_sRet, a_sCont, a_sOne, a_eV, a_eLoc, a_e1, a_e2, a_eAll0, a_eAll1, a_eS, a_e1S, a_eIf, a_eTr, a_eAnd1, a_eAnd2, a_tNot, a_tAnd0, a_tAnd1, a_tOr0, a_tOr1, a_tOf, a_tCmp2, a_tCmp3, a_eMeth, a_eO0, a_eO1, a_eCut, a_callF, a_callB, a_methF, ls1, ls2, ls3, ls4, a_bind, S_inj, String.reduceEq, reduceIte, a_fin1, a_fin2, a_fin3, Bool.not_true, Bool.not_false, a_trB, a_lt, a_le, a_gt, a_ge, a_eq, a_ne, a_add, a_sub, a_neg, a_mod, a_inW, a_niW, a_niD, decide_true, decide_false, nT2, nT3, nL0, nL1, a_eqB, a_eqS, a_neS]; rfl) hs1 (by rw [List.length_map]; omega), a_sAll0, List.map_append]
      rfl
    · simp only [a_sAll0, a_sExpr, a_sAsg, a_sIf, a_sRet, a_sCont, a_sOne, a_eV, a_eLoc, a_e1, a_e2, a_eAll0, a_eAll1, a_eS, a_e1S, a_eIf, a_eTr, a_eAnd1, a_eAnd2, a_tNot, a_tAnd0, a_tAnd1, a_tOr0, a_tOr1, a_tOf, a_tCmp2, a_tCmp3, a_eMeth, a_eO0, a_eO1, a_eCut, a_callF, a_callB, a_methF, ls1, ls2, ls3, ls4, a_bind, S_inj, String.reduceEq, reduceIte, a_fin1, a_fin2, a_fin3, Bool.not_true, Bool.not_false, a_trB, a_lt, a_le, a_gt, a_ge, a_eq, a_ne, a_add, a_sub, a_neg, a_mod, a_inW, a_niW, a_niD, decide_true, decide_false, nT2, nT3, nL0, nL1, a_eqB, a_eqS, a_neS, L.cu]
    · simp only [a_sAll0, a_sExpr, a_sAsg, a_sIf, a_sRet, a_sCont, a_sOne, a_eV, a_eLoc, a_e1, a_e2, a_eAll0, a_eAll1, a_eS, a_e1S, a_eIf, a_eTr, a_eAnd1, a_eAnd2, a_tNot, a_tAnd0, a_tAnd1, a_tOr0, a_tOr1, a_tOf, a_tCmp2, a_tCmp3, a_eMeth, a_eO0, a_eO1, a_eCut, a_callF, a_callB, a_methF, ls1, ls2, ls3, ls4, a_bind, S_inj, String.reduceEq, reduceIte, a_fin1, a_fin2, a_fin3, Bool.not_true, Bool.not_false, a_trB, a_lt, a_le, a_gt, a_ge, a_eq, a_ne, a_add, a_sub, a_neg, a_mod, a_inW, a_niW, a_niD, decide_true, decide_false, nT2, nT3, nL0, nL1, a_eqB, a_eqS, a_neS, L.co]
    · simp only [a_sAll0, a_sExpr, a_sAsg, a_sIf, a_sRet, a_sCont, a_sOne, a_eV, a_eLoc, a_e1, a_e2, a_eAll0, a_eAll1, a_eS, a_e1S, a_eIf, a_eTr, a_eAnd1, a_eAnd2, a_tNot, a_tAnd0, a_tAnd1, a_tOr0, a_tOr1, a_tOf, a_tCmp2, a_tCmp3, a_eMeth, a_eO0, a_eO1, a_eCut, a_callF, a_callB, a_methF, ls1, ls2, ls3, ls4, a_bind, S_inj, String.reduceEq, reduceIte, a_fin1, a_fin2, a_fin3, Bool.not_true, Bool.not_false, a_trB, a_lt, a_le, a_gt, a_ge, a_eq, a_ne, a_add, a_sub, a_neg, a_mod, a_inW, a_niW, a_niD, decide_true, decide_false, nT2, nT3, nL0, nL1, a_eqB, a_eqS, a_neS]
  · have e3 : ¬ ((x.toNat : Int) = 40) := fun q => g (UInt8.toNat_inj.mp (by show x.toNat = 40; omega))
    refine ⟨_, _, fun m => w_step (h1 := hp) (l2 := bind1 (S "code") (.int (x.toNat : Int)) ls) (h2 := _) ?_ ?_, ⟨?_, ?_, ?_⟩, sz⟩
    · simp only [a_sAll0, a_sExpr, a_sAsg, a_sIf, a_sRet, a_sCont, a_sOne, a_eV, a_eLoc, a_e1, a_e2, a_eAll0, a_eAll1, a_eS, a_e1S, a_eIf, a_eTr, a_eAnd1, a_eAnd2, a_tNot, a_tAnd0, a_tAnd1, a_tOr0, a_tOr1, a_tOf, a_tCmp2, a_tCmp3, a_eMeth, a_eO0, a_eO1, a_eCut, a_callF, a_callB, a_methF, ls1, ls2, ls3, ls4, a_bind, S_inj, String.reduceEq, reduceIte, a_fin1, a_fin2, a_fin3, Bool.not_true, Bool.not_false, a_trB, a_lt, a_le, a_gt, a_ge, a_eq, a_ne, a_add, a_sub, a_neg, a_mod, a_inW, a_niW, a_niD, decide_true, decide_false, nT2, nT3, nL0, nL1, a_eqB, a_eqS, a_neS, L.cu, me_done h, sp_106f h W]
    · simp only [a_sIf, a_sAll0, a_sAsg, a_sIf, a_sRet, a_sCont, a_sOne, a_eV, a_eLoc, a_e1, a_e2, a_eAll0, a_eAll1, a_eS, a_e1S, a_eIf, a_eTr, a_eAnd1, a_eAnd2, a_tNot, a_tAnd0, a_tAnd1, a_tOr0, a_tOr1, a_tOf, a_tCmp2, a_tCmp3, a_eMeth, a_eO0, a_eO1, a_eCut, a_callF, a_callB, a_methF, ls1, ls2, ls3, ls4, a_bind, S_inj, String.reduceEq, reduceIte, a_fin1, a_fin2, a_fin3, Bool.not_true, Bool.not_false, a_trB, a_lt, a_le, a_gt, a_ge, a_eq, a_ne, a_add, a_sub, a_neg, a_mod, a_inW, a_niW, a_niD, decide_true, decide_false, nT2, nT3, nL0, nL1, a_eqB, a_eqS, a_neS, L.cu, L.de, me_line h, sp_156f h W hx.1 hx.2.1, me_take h, sp_121 h W, e1, e2, e3, a_then0]
      rw [sExpr_append (v := iv x.toNat) (by simp only [a_sAll0, a_sExpr, a_sAsg, a_sIf, a_sRet, a_sCont, a_sOne, a_eV, a_eLoc, a_e1, a_e2, a_eAll0, a_eAll1, a_eS, a_e1S, a_eIf, a_eTr, a_eAnd1, a_eAnd2, a_tNot, a_tAnd0, a_tAnd1, a_tOr0, a_tOr1, a_tOf, a_tCmp2, a_tCmp3, a_eMeth, a_eO0, a_eO1, a_eCut, a_callF, a_callB, a_methF, ls1, ls2, ls3, ls4, a_bind, S_inj, String.reduceEq, reduceIte, a_fin1, a_fin2, a_fin3, Bool.not_true, Bool.not_false, a_trB, a_lt, a_le, a_gt, a_ge, a_eq, a_ne, a_add, a_sub, a_neg, a_mod, a_inW, a_niW, a_niD, decide_true, decide_false, nT2, nT3, nL0, nL1, a_eqB, a_eqS, a_neS, L.co]) hs1 (by simp only [a_sAll0, a_sExpr, a_sAsg, a_sIf, a_sRet, a_sCont, a_sOne, a_eV, a_eLoc, a_e1, a_e2, a_eAll0, a_eAll1, a_eS, a_e1S, a_eIf, a_eTr, a_eAnd1, a_eAnd2, a_tNot, a_tAnd0, a_tAnd1, a_tOr0, a_tOr1, a_tOf, a_tCmp2, a_tCmp3, a_eMeth, a_eO0, a_eO1, a_eCut, a_callF, a_callB, a_methF, ls1, ls2, ls3, ls4, a_bind, S_inj, String.reduceEq, reduceIte, a_fin1, a_fin2, a_fin3, Bool.not_true, Bool.not_false, a_trB, a_lt, a_le, a_gt, a_ge, a_eq, a_ne, a_add, a_sub, a_neg, a_mod, a_inW, a_niW, a_niD, decide_true, decide_false, nT2, nT3, nL0, nL1, a_eqB, a_eqS, a_neS]; rfl) hs1 (by rw [List.length_map]; omega), a_sAll0, List.map_append]
      rfl
    · simp only [a_sAll0, a_sExpr, a_sAsg, a_sIf, a_sRet, a_sCont, a_sOne, a_eV, a_eLoc, a_e1, a_e2, a_eAll0, a_eAll1, a_eS, a_e1S, a_eIf, a_eTr, a_eAnd1, a_eAnd2, a_tNot, a_tAnd0, a_tAnd1, a_tOr0, a_tOr1, a_tOf, a_tCmp2, a_tCmp3, a_eMeth, a_eO0, a_eO1, a_eCut, a_callF, a_callB, a_methF, ls1, ls2, ls3, ls4, a_bind, S_inj, String.reduceEq, reduceIte, a_fin1, a_fin2, a_fin3, Bool.not_true, Bool.not_false, a_trB, a_lt, a_le, a_gt, a_ge, a_eq, a_ne, a_add, a_sub, a_neg, a_mod, a_inW, a_niW, a_niD, decide_true, decide_false, nT2, nT3, nL0, nL1, a_eqB, a_eqS, a_neS, L.cu]
    · simp only [a_sAll0, a_sExpr, a_sAsg, a_sIf, a_sRet, a_sCont, a_sOne, a_eV, a_eLoc, a_e1, a_e2, a_eAll0, a_eAll1, a_eS, a_e1S, a_eIf, a_eTr, a_eAnd1, a_eAnd2, a_tNot, a_tAnd0, a_tAnd1, a_tOr0, a_tOr1, a_tOf, a_tCmp2, a_tCmp3, a_eMeth, a_eO0, a_eO1, a_eCut, a_callF, a_callB, a_methF, ls1, ls2, ls3, ls4, a_bind, S_inj, String.reduceEq, reduceIte, a_fin1, a_fin2, a_fin3, Bool.not_true, Bool.not_false, a_trB, a_lt, a_le, a_gt, a_ge, a_eq, a_ne, a_add, a_sub, a_neg, a_mod, a_inW, a_niW, a_niD, decide_true, decide_false, nT2, nT3, nL0, nL1, a_eqB, a_eqS, a_neS, L.co]
    · rw [if_neg g]; simp only [a_sAll0, a_sExpr, a_sAsg, a_sIf, a_sRet, a_sCont, a_sOne, a_eV, a_eLoc, a_e1, a_e2, a_eAll0, a_eAll1, a_eS, a_e1S, a_eIf, a_eTr, a_eAnd1, a_eAnd2, a_tNot, a_tAnd0, a_tAnd1, a_tOr0, a_tOr1, a_tOf, a_tCmp2, a_tCmp3, a_eMeth, a_eO0, a_eO1, a_eCut, a_callF, a_callB, a_methF, ls1, ls2, ls3, ls4, a_bind, S_inj, String.reduceEq, reduceIte, a_fin1, a_fin2, a_fin3, Bool.not_true, Bool.not_false, a_trB, a_lt, a_le, a_gt, a_ge, a_eq, a_ne, a_add, a_sub, a_neg, a_mod, a_inW, a_niW, a_niD, decide_true, decide_false, nT2, nT3, nL0, nL1, a_eqB, a_eqS, a_neS, L.de]
theorem close_347 {ls : Ls} {s : Nat} {l : List Nat} (L : LS ls c s 2) (ne : c ≠ s) (h : hp[c]? = some (cur d a e)) (hs : hp[s]? = some (.list (l.map iv))) (hl : l.length ≤ 1000) (W : Win d a e (41 :: w)) :
    ∃ ls' hp', (∀ m, sWhile (tNot (tOf (eMeth (orc n sc (k + 3)) (S "is_done") (eLoc (S "cursor")) []) trV)) (sAll [(sIf (tOf (eMeth (orc n sc (k + 3)) (S "skip_line_end") (eLoc (S "cursor")) []) trV) (sAll [(sExpr (eMeth (orc n sc (k + 3)) (S "append") (eLoc (S "codes")) [(eV (.int 10))])), sCont]) (sAll [])), (sAsg (S "code") (eMeth (orc n sc (k + 3)) (S "take") (eLoc (S "cursor")) [])), (sIf (tCmp2 (cmpV .Eq) (eLoc (S "code")) (eV (.int 92))) (sAll [(sExpr (eMeth (orc n sc (k + 3)) (S "extend") (eLoc (S "codes")) [(e1S (callV (orc n sc (k + 3))) (eV (.fn 340)) [(eLoc (S "cursor"))])])), sCont]) (sAll [])), (sIf (tCmp2 (cmpV .Eq) (eLoc (S "code")) (eV (.int 40))) (sAll [(sAsg (S "depth") (e2 (binV .Add) (eLoc (S "depth")) (eV (.int 1))))]) (sAll [])), (sIf (tCmp2 (cmpV .Eq) (eLoc (S "code")) (eV (.int 41))) (sAll [(sAsg (S "depth") (e2 (binV .Sub) (eLoc (S "depth")) (eV (.int 1)))), (sIf (tCmp2 (cmpV .Eq) (eLoc (S "depth")) (eV (.int 0))) (sAll [(sRet (e1S (callV (orc n sc (k + 3))) (eV (.bi .bytes)) [(eLoc (S "codes"))]))]) (sAll []))]) (sAll [])), (sExpr (eMeth (orc n sc (k + 3)) (S "append") (eLoc (S "codes")) [(eLoc (S "code"))]))]) (m + 1) ls hp = sWhile (tNot (tOf (eMeth (orc n sc (k + 3)) (S "is_done") (eLoc (S "cursor")) []) trV)) (sAll [(sIf (tOf (eMeth (orc n sc (k + 3)) (S "skip_line_end") (eLoc (S "cursor")) []) trV) (sAll [(sExpr (eMeth (orc n sc (k + 3)) (S "append") (eLoc (S "codes")) [(eV (.int 10))])), sCont]) (sAll [])), (sAsg (S "code") (eMeth (orc n sc (k + 3)) (S "take") (eLoc (S "cursor")) [])), (sIf (tCmp2 (cmpV .Eq) (eLoc (S "code")) (eV (.int 92))) (sAll [(sExpr (eMeth (orc n sc (k + 3)) (S "extend") (eLoc (S "codes")) [(e1S (callV (orc n sc (k + 3))) (eV (.fn 340)) [(eLoc (S "cursor"))])])), sCont]) (sAll [])), (sIf (tCmp2 (cmpV .Eq) (eLoc (S "code")) (eV (.int 40))) (sAll [(sAsg (S "depth") (e2 (binV .Add) (eLoc (S "depth")) (eV (.int 1))))]) (sAll [])), (sIf (tCmp2 (cmpV .Eq) (eLoc (S "code")) (eV (.int 41))) (sAll [(sAsg (S "depth") (e2 (binV .Sub) (eLoc (S "depth")) (eV (.int 1)))), (sIf (tCmp2 (cmpV .Eq) (eLoc (S "depth")) (eV (.int 0))) (sAll [(sRet (e1S (callV (orc n sc (k + 3))) (eV (.bi .bytes)) [(eLoc (S "codes"))]))]) (sAll []))]) (sAll [])), (sExpr (eMeth (orc n sc (k + 3)) (S "append") (eLoc (S "codes")) [(eLoc (S "code"))]))]) m ls' hp') ∧ LS ls' c s 1 ∧ S2 c (cur d ((a + 1 : Nat) : Int) e) s (.list ((l ++ [41]).map iv)) hp hp' := by
  have st := (St.set (o' := cur d ((a + 1 : Nat) : Int) e) h)
  have hs1 := st.keep _ _ (Ne.symm ne) hs
  have sz := S2.of ne st (St.set (o' := .list ((l ++ [41]).map iv)) hs1)
  have tk : orc n sc (k + 3) 121 [.ref c] hp = some (.int 41, hp.set c (cur d ((a + 1 : Nat) : Int) e)) := sp_121 h W
  refine ⟨_, _, fun m => w_step (h1 := hp) (l2 := bind1 (S "depth") (.int (2 - 1)) (bind1 (S "code") (.int 41) ls)) (h2 := _) ?_ ?_, ⟨?_, ?_, ?_⟩, sz⟩
  · simp only [a_sAll0, a_sExpr, a_sAsg, a_sIf, a_sRet, a_sCont, a_sOne, a_eV, a_eLoc, a_e1, a_e2, a_eAll0, a_eAll1, a_eS, a_e1S, a_eIf, a_eTr, a_eAnd1, a_eAnd2, a_tNot, a_tAnd0, a_tAnd1, a_tOr0, a_tOr1, a_tOf, a_tCmp2, a_tCmp3, a_eMeth, a_eO0, a_eO1, a_eCut, a_callF, a_callB, a_methF, ls1, ls2, ls3, ls4, a_bind, S_inj, String.reduceEq, reduceIte, a_fin1, a_fin2, a_fin3, Bool.not_true, Bool.not_false, a_trB, a_lt, a_le, a_gt, a_ge, a_eq, a_ne, a_add, a_sub, a_neg, a_mod, a_inW, a_niW, a_niD, decide_true, decide_false, nT2, nT3, nL0, nL1, a_eqB, a_eqS, a_neS, L.cu, me_done h, sp_106f h W]
  · simp only [a_sIf, a_sAll0, a_sAsg, a_sIf, a_sRet, a_sCont, a_sOne, a_eV, a_eLoc, a_e1, a_e2, a_eAll0, a_eAll1, a_eS, a_e1S, a_eIf, a_eTr, a_eAnd1, a_eAnd2, a_tNot, a_tAnd0, a_tAnd1, a_tOr0, a_tOr1, a_tOf, a_tCmp2, a_tCmp3, a_eMeth, a_eO0, a_eO1, a_eCut, a_callF, a_callB, a_methF, ls1, ls2, ls3, ls4, a_bind, S_inj, String.reduceEq, reduceIte, a_fin1, a_fin2, a_fin3, Bool.not_true, Bool.not_false, a_trB, a_lt, a_le, a_gt, a_ge, a_eq, a_ne, a_add, a_sub, a_neg, a_mod, a_inW, a_niW, a_niD, decide_true, decide_false, nT2, nT3, nL0, nL1, a_eqB, a_eqS, a_neS, L.cu, L.de, me_line h, sp_156f h W (by decide) (by decide), me_take h, tk, Int.reduceEq, Int.reduceSub, a_then0]
    rw [sExpr_append (v := iv 41) (by simp only [a_sAll0, a_sExpr, a_sAsg, a_sIf, a_sRet, a_sCont, a_sOne, a_eV, a_eLoc, a_e1, a_e2, a_eAll0, a_eAll1, a_eS, a_e1S, a_eIf, a_eTr, a_eAnd1, a_eAnd2, a_tNot, a_tAnd0, a_tAnd1, a_tOr0, a_tOr1, a_tOf, a_tCmp2, a_tCmp3, a_eMeth, a_eO0, a_eO1, a_eCut, a_callF, a_callB, a_methF, ls1, ls2, ls3, ls4, a_bind, S_inj, String.reduceEq, reduceIte, a_fin1, a_fin2, a_fin3, Bool.not_true, Bool.not_false, a_trB, a_lt, a_le, a_gt, a_ge, a_eq, a_ne, a_add, a_sub, a_neg, a_mod, a_inW, a_niW, a_niD, decide_true, decide_false, nT2, nT3, nL0, nL1, a_eqB, a_eqS, a_neS, L.co]) hs1 (by simp only [a_sAll0, a_sExpr, a_sAsg, a_sIf, a_sRet, a_sCont, a_sOne, a_eV, a_eLoc, a_e1, a_e2, a_eAll0, a_eAll1, a_eS, a_e1S, a_eIf, a_eTr, a_eAnd1, a_eAnd2, a_tNot, a_tAnd0, a_tAnd1, a_tOr0, a_tOr1, a_tOf, a_tCmp2, a_tCmp3, a_eMeth, a_eO0, a_eO1, a_eCut, a_callF, a_callB, a_methF, ls1, ls2, ls3, ls4, a_bind, S_inj, String.reduceEq, reduceIte, a_fin1, a_fin2, a_fin3, Bool.not_true, Bool.not_false, a_trB, a_lt, a_le, a_gt, a_ge, a_eq, a_ne, a_add, a_sub, a_neg, a_mod, a_inW, a_niW, a_niD, decide_true, decide_false, nT2, nT3, nL0, nL1, a_eqB, a_eqS, a_neS]; rfl) hs1 (by rw [List.length_map]; omega), a_sAll0, List.map_append]
    rfl
  · simp only [a_sAll0, a_sExpr, a_sAsg, a_sIf, a_sRet, a_sCont, a_sOne, a_eV, a_eLoc, a_e1, a_e2, a_eAll0, a_eAll1, a_eS, a_e1S, a_eIf, a_eTr, a_eAnd1, a_eAnd2, a_tNot, a_tAnd0, a_tAnd1, a_tOr0, a_tOr1, a_tOf, a_tCmp2, a_tCmp3, a_eMeth, a_eO0, a_eO1, a_eCut, a_callF, a_callB, a_methF, ls1, ls2, ls3, ls4, a_bind, S_inj, String.reduceEq, reduceIte, a_fin1, a_fin2, a_fin3, Bool.not_true, Bool.not_false, a_trB, a_lt, a_le, a_gt, a_ge, a_eq, a_ne, a_add, a_sub, a_neg, a_mod, a_inW, a_niW, a_niD, decide_true, decide_false, nT2, nT3, nL0, nL1, a_eqB, a_eqS, a_neS, L.cu]
  · simp only [a_sAll0, a_sExpr, a_sAsg, a_sIf, a_sRet, a_sCont, a_sOne, a_eV, a_eLoc, a_e1, a_e2, a_eAll0, a_eAll1, a_eS, a_e1S, a_eIf, a_eTr, a_eAnd1, a_eAnd2, a_tNot, a_tAnd0, a_tAnd1, a_tOr0, a_tOr1, a_tOf, a_tCmp2, a_tCmp3, a_eMeth, a_eO0, a_eO1, a_eCut, a_callF, a_callB, a_methF, ls1, ls2, ls3, ls4, a_bind, S_inj, String.reduceEq, reduceIte, a_fin1, a_fin2, a_fin3, Bool.not_true, Bool.not_false, a_trB, a_lt, a_le, a_gt, a_ge, a_eq, a_ne, a_add, a_sub, a_neg, a_mod, a_inW, a_niW, a_niD, decide_true, decide_false, nT2, nT3, nL0, nL1, a_eqB, a_eqS, a_neS, L.co]
  · simp only [a_sAll0, a_sExpr, a_sAsg, a_sIf, a_sRet, a_sCont, a_sOne, a_eV, a_eLoc, a_e1, a_e2, a_eAll0, a_eAll1, a_eS, a_e1S, a_eIf, a_eTr, a_eAnd1, a_eAnd2, a_tNot, a_tAnd0, a_tAnd1, a_tOr0, a_tOr1, a_tOf, a_tCmp2, a_tCmp3, a_eMeth, a_eO0, a_eO1, a_eCut, a_callF, a_callB, a_methF, ls1, ls2, ls3, ls4, a_bind, S_inj, String.reduceEq, reduceIte, a_fin1, a_fin2, a_fin3, Bool.not_true, Bool.not_false, a_trB, a_lt, a_le, a_gt, a_ge, a_eq, a_ne, a_add, a_sub, a_neg, a_mod, a_inW, a_niW, a_niD, decide_true, decide_false, nT2, nT3, nL0, nL1, a_eqB, a_eqS, a_neS]; rfl
theorem last_347 {ls : Ls} {s : Nat} {l : List Nat} {b : List UInt8} (L : LS ls c s 1) (ne : c ≠ s) (h : hp[c]? = some (cur d a e)) (hs : hp[s]? = some (.list (l.map iv))) (hl : l.length ≤ 1000) (hb : octets (l.map iv) = some b) (W : Win d a e (41 :: w)) (m : Nat) :
    ∃ ls', sWhile (tNot (tOf (eMeth (orc n sc (k + 3)) (S "is_done") (eLoc (S "cursor")) []) trV)) (sAll [(sIf (tOf (eMeth (orc n sc (k + 3)) (S "skip_line_end") (eLoc (S "cursor")) []) trV) (sAll [(sExpr (eMeth (orc n sc (k + 3)) (S "append") (eLoc (S "codes")) [(eV (.int 10))])), sCont]) (sAll [])), (sAsg (S "code") (eMeth (orc n sc (k + 3)) (S "take") (eLoc (S "cursor")) [])), (sIf (tCmp2 (cmpV .Eq) (eLoc (S "code")) (eV (.int 92))) (sAll [(sExpr (eMeth (orc n sc (k + 3)) (S "extend") (eLoc (S "codes")) [(e1S (callV (orc n sc (k + 3))) (eV (.fn 340)) [(eLoc (S "cursor"))])])), sCont]) (sAll [])), (sIf (tCmp2 (cmpV .Eq) (eLoc (S "code")) (eV (.int 40))) (sAll [(sAsg (S "depth") (e2 (binV .Add) (eLoc (S "depth")) (eV (.int 1))))]) (sAll [])), (sIf (tCmp2 (cmpV .Eq) (eLoc (S "code")) (eV (.int 41))) (sAll [(sAsg (S "depth") (e2 (binV .Sub) (eLoc (S "depth")) (eV (.int 1)))), (sIf (tCmp2 (cmpV .Eq) (eLoc (S "depth")) (eV (.int 0))) (sAll [(sRet (e1S (callV (orc n sc (k + 3))) (eV (.bi .bytes)) [(eLoc (S "codes"))]))]) (sAll []))]) (sAll [])), (sExpr (eMeth (orc n sc (k + 3)) (S "append") (eLoc (S "codes")) [(eLoc (S "code"))]))]) (m + 1) ls hp = some (.ret (.bytes b), ls', hp.set c (cur d ((a + 1 : Nat) : Int) e)) := by
  have st := (St.set (o' := cur d ((a + 1 : Nat) : Int) e) h)
  have hs1 := st.keep _ _ (Ne.symm ne) hs
  have tk : orc n sc (k + 3) 121 [.ref c] hp = some (.int 41, hp.set c (cur d ((a + 1 : Nat) : Int) e)) := sp_121 h W
  have cb : callB .bytes [.ref s] (hp.set c (cur d ((a + 1 : Nat) : Int) e)) = some (.bytes b, hp.set c (cur d ((a + 1 : Nat) : Int) e)) := by
    unfold callB bytB
    dsimp only
    rw [hs1]
    dsimp only
    rw [if_pos (by rw [List.length_map]; omega), hb]
    rfl
  refine ⟨_, w_ret (h1 := hp) ?_ (l2 := bind1 (S "depth") (.int 0) (bind1 (S "code") (.int 41) ls)) ?_⟩
  · simp only [a_sAll0, a_sExpr, a_sAsg, a_sIf, a_sRet, a_sCont, a_sOne, a_eV, a_eLoc, a_e1, a_e2, a_eAll0, a_eAll1, a_eS, a_e1S, a_eIf, a_eTr, a_eAnd1, a_eAnd2, a_tNot, a_tAnd0, a_tAnd1, a_tOr0, a_tOr1, a_tOf, a_tCmp2, a_tCmp3, a_eMeth, a_eO0, a_eO1, a_eCut, a_callF, a_callB, a_methF, ls1, ls2, ls3, ls4, a_bind, S_inj, String.reduceEq, reduceIte, a_fin1, a_fin2, a_fin3, Bool.not_true, Bool.not_false, a_trB, a_lt, a_le, a_gt, a_ge, a_eq, a_ne, a_add, a_sub, a_neg, a_mod, a_inW, a_niW, a_niD, decide_true, decide_false, nT2, nT3, nL0, nL1, a_eqB, a_eqS, a_neS, L.cu, me_done h, sp_106f h W]
  · simp only [a_sIf, a_sAll0, a_sAsg, a_sIf, a_sRet, a_sCont, a_sOne, a_eV, a_eLoc, a_e1, a_e2, a_eAll0, a_eAll1, a_eS, a_e1S, a_eIf, a_eTr, a_eAnd1, a_eAnd2, a_tNot, a_tAnd0, a_tAnd1, a_tOr0, a_tOr1, a_tOf, a_tCmp2, a_tCmp3, a_eMeth, a_eO0, a_eO1, a_eCut, a_callF, a_callB, a_methF, ls1, ls2, ls3, ls4, a_bind, S_inj, String.reduceEq, reduceIte, a_fin1, a_fin2, a_fin3, Bool.not_true, Bool.not_false, a_trB, a_lt, a_le, a_gt, a_ge, a_eq, a_ne, a_add, a_sub, a_neg, a_mod, a_inW, a_niW, a_niD, decide_true, decide_false, nT2, nT3, nL0, nL1, a_eqB, a_eqS, a_neS, L.cu, L.de, L.co, me_line h, sp_156f h W (by decide) (by decide), me_take h, tk, Int.reduceEq, Int.reduceSub, cb, a_then0, a_then1]
theorem esc_347 {ls : Ls} {s : Nat} {l ys : List Nat} {t : Int} {a' : Nat} (L : LS ls c s t) (ne : c ≠ s) (h : hp[c]? = some (cur d a e)) (hs : hp[s]? = some (.list (l.map iv))) (hl : l.length ≤ 1000) (hy : ys.length ≤ 1000) (W : Win d a e (92 :: w))
    (G : ∀ hp, hp[c]? = some (cur d ((a + 1 : Nat) : Int) e) → ∃ j hp', orc n sc (k + 3) 340 [.ref c] hp = some (.ref j, hp') ∧ St c (cur d (a' : Int) e) hp hp' ∧ hp'[j]? = some (.list (ys.map iv))) :
    ∃ ls' hp', (∀ m, sWhile (tNot (tOf (eMeth (orc n sc (k + 3)) (S "is_done") (eLoc (S "cursor")) []) trV)) (sAll [(sIf (tOf (eMeth (orc n sc (k + 3)) (S "skip_line_end") (eLoc (S "cursor")) []) trV) (sAll [(sExpr (eMeth (orc n sc (k + 3)) (S "append") (eLoc (S "codes")) [(eV (.int 10))])), sCont]) (sAll [])), (sAsg (S "code") (eMeth (orc n sc (k + 3)) (S "take") (eLoc (S "cursor")) [])), (sIf (tCmp2 (cmpV .Eq) (eLoc (S "code")) (eV (.int 92))) (sAll [(sExpr (eMeth (orc n sc (k + 3)) (S "extend") (eLoc (S "codes")) [(e1S (callV (orc n sc (k + 3))) (eV (.fn 340)) [(eLoc (S "cursor"))])])), sCont]) (sAll [])), (sIf (tCmp2 (cmpV .Eq) (eLoc (S "code")) (eV (.int 40))) (sAll [(sAsg (S "depth") (e2 (binV .Add) (eLoc (S "depth")) (eV (.int 1))))]) (sAll [])), (sIf (tCmp2 (cmpV .Eq) (eLoc (S "code")) (eV (.int 41))) (sAll [(sAsg (S "depth") (e2 (binV .Sub) (eLoc (S "depth")) (eV (.int 1)))), (sIf (tCmp2 (cmpV .Eq) (eLoc (S "depth")) (eV (.int 0))) (sAll [(sRet (e1S (callV (orc n sc (k + 3))) (eV (.bi .bytes)) [(eLoc (S "codes"))]))]) (sAll []))]) (sAll [])), (sExpr (eMeth (orc n sc (k + 3)) (S "append") (eLoc (S "codes")) [(eLoc (S "code"))]))]) (m + 1) ls hp = sWhile (tNot (tOf (eMeth (orc n sc (k + 3)) (S "is_done") (eLoc (S "cursor")) []) trV)) (sAll [(sIf (tOf (eMeth (orc n sc (k + 3)) (S "skip_line_end") (eLoc (S "cursor")) []) trV) (sAll [(sExpr (eMeth (orc n sc (k + 3)) (S "append") (eLoc (S "codes")) [(eV (.int 10))])), sCont]) (sAll [])), (sAsg (S "code") (eMeth (orc n sc (k + 3)) (S "take") (eLoc (S "cursor")) [])), (sIf (tCmp2 (cmpV .Eq) (eLoc (S "code")) (eV (.int 92))) (sAll [(sExpr (eMeth (orc n sc (k + 3)) (S "extend") (eLoc (S "codes")) [(e1S (callV (orc n sc (k + 3))) (eV (.fn 340)) [(eLoc (S "cursor"))])])), sCont]) (sAll [])), (sIf (tCmp2 (cmpV .Eq) (eLoc (S "code")) (eV (.int 40))) (sAll [(sAsg (S "depth") (e2 (binV .Add) (eLoc (S "depth")) (eV (.int 1))))]) (sAll [])), (sIf (tCmp2 (cmpV .Eq) (eLoc (S "code")) (eV (.int 41))) (sAll [(sAsg (S "depth") (e2 (binV .Sub) (eLoc (S "depth")) (eV (.int 1)))), (sIf (tCmp2 (cmpV .Eq) (eLoc (S "depth")) (eV (.int 0))) (sAll [(sRet (e1S (callV (orc n sc (k + 3))) (eV (.bi .bytes)) [(eLoc (S "codes"))]))]) (sAll []))]) (sAll [])), (sExpr (eMeth (orc n sc (k + 3)) (S "append") (eLoc (S "codes")) [(eLoc (S "code"))]))]) m ls' hp') ∧ LS ls' c s t ∧ S2 c (cur d (a' : Int) e) s (.list ((l ++ ys).map iv)) hp hp' := by
  have st := (St.set (o' := cur d ((a + 1 : Nat) : Int) e) h)
  obtain ⟨j, hp', q, z, hj⟩ := G _ st.at_
  have hs0 := st.keep _ _ (Ne.symm ne) hs
  have hs1 := z.keep _ _ (Ne.symm ne) hs0
  have sz := S2.of ne (st.trans z) (St.set (o' := .list ((l ++ ys).map iv)) hs1)
  have tk : orc n sc (k + 3) 121 [.ref c] hp = some (.int 92, hp.set c (cur d ((a + 1 : Nat) : Int) e)) := sp_121 h W
  have ax := a_extend hp' (C := orc n sc (k + 3)) hs1 hj (by rw [List.length_map]; omega) (by rw [List.length_map]; omega)
  refine ⟨_, _, fun m => w_cont (h1 := hp) (l2 := bind1 (S "code") (.int 92) ls) (h2 := _) ?_ ?_, ⟨?_, ?_, ?_⟩, sz⟩
  · simp only [a_sAll0, a_sExpr, a_sAsg, a_sIf, a_sRet, a_sCont, a_sOne, a_eV, a_eLoc, a_e1, a_e2, a_eAll0, a_eAll1, a_eS, a_e1S, a_eIf, a_eTr, a_eAnd1, a_eAnd2, a_tNot, a_tAnd0, a_tAnd1, a_tOr0, a_tOr1, a_tOf, a_tCmp2, a_tCmp3, a_eMeth, a_eO0, a_eO1, a_eCut, a_callF, a_callB, a_methF, ls1, ls2, ls3, ls4, a_bind, S_inj, String.reduceEq, reduceIte, a_fin1, a_fin2, a_fin3, Bool.not_true, Bool.not_false, a_trB, a_lt, a_le, a_gt, a_ge, a_eq, a_ne, a_add, a_sub, a_neg, a_mod, a_inW, a_niW, a_niD, decide_true, decide_false, nT2, nT3, nL0, nL1, a_eqB, a_eqS, a_neS, L.cu, me_done h, sp_106f h W]
  · simp only [a_sIf, a_sAll0, a_sExpr, a_sAsg, a_sIf, a_sRet, a_sCont, a_sOne, a_eV, a_eLoc, a_e1, a_e2, a_eAll0, a_eAll1, a_eS, a_e1S, a_eIf, a_eTr, a_eAnd1, a_eAnd2, a_tNot, a_tAnd0, a_tAnd1, a_tOr0, a_tOr1, a_tOf, a_tCmp2, a_tCmp3, a_eMeth, a_eO0, a_eO1, a_eCut, a_callF, a_callB, a_methF, ls1, ls2, ls3, ls4, a_bind, S_inj, String.reduceEq, reduceIte, a_fin1, a_fin2, a_fin3, Bool.not_true, Bool.not_false, a_trB, a_lt, a_le, a_gt, a_ge, a_eq, a_ne, a_add, a_sub, a_neg, a_mod, a_inW, a_niW, a_niD, decide_true, decide_false, nT2, nT3, nL0, nL1, a_eqB, a_eqS, a_neS, L.cu, L.co, me_line h, sp_156f h W (by decide) (by decide), me_take h, tk, me_extend hs0, q, ax, a_then0, a_then2, List.map_append]
  · simp only [a_sAll0, a_sExpr, a_sAsg, a_sIf, a_sRet, a_sCont, a_sOne, a_eV, a_eLoc, a_e1, a_e2, a_eAll0, a_eAll1, a_eS, a_e1S, a_eIf, a_eTr, a_eAnd1, a_eAnd2, a_tNot, a_tAnd0, a_tAnd1, a_tOr0, a_tOr1, a_tOf, a_tCmp2, a_tCmp3, a_eMeth, a_eO0, a_eO1, a_eCut, a_callF, a_callB, a_methF, ls1, ls2, ls3, ls4, a_bind, S_inj, String.reduceEq, reduceIte, a_fin1, a_fin2, a_fin3, Bool.not_true, Bool.not_false, a_trB, a_lt, a_le, a_gt, a_ge, a_eq, a_ne, a_add, a_sub, a_neg, a_mod, a_inW, a_niW, a_niD, decide_true, decide_false, nT2, nT3, nL0, nL1, a_eqB, a_eqS, a_neS, L.cu]
  · simp only [a_sAll0, a_sExpr, a_sAsg, a_sIf, a_sRet, a_sCont, a_sOne, a_eV, a_eLoc, a_e1, a_e2, a_eAll0, a_eAll1, a_eS, a_e1S, a_eIf, a_eTr, a_eAnd1, a_eAnd2, a_tNot, a_tAnd0, a_tAnd1, a_tOr0, a_tOr1, a_tOf, a_tCmp2, a_tCmp3, a_eMeth, a_eO0, a_eO1, a_eCut, a_callF, a_callB, a_methF, ls1, ls2, ls3, ls4, a_bind, S_inj, String.reduceEq, reduceIte, a_fin1, a_fin2, a_fin3, Bool.not_true, Bool.not_false, a_trB, a_lt, a_le, a_gt, a_ge, a_eq, a_ne, a_add, a_sub, a_neg, a_mod, a_inW, a_niW, a_niD, decide_true, decide_false, nT2, nT3, nL0, nL1, a_eqB, a_eqS, a_neS, L.co]
  · simp only [a_sAll0, a_sExpr, a_sAsg, a_sIf, a_sRet, a_sCont, a_sOne, a_eV, a_eLoc, a_e1, a_e2, a_eAll0, a_eAll1, a_eS, a_e1S, a_eIf, a_eTr, a_eAnd1, a_eAnd2, a_tNot, a_tAnd0, a_tAnd1, a_tOr0, a_tOr1, a_tOf, a_tCmp2, a_tCmp3, a_eMeth, a_eO0, a_eO1, a_eCut, a_callF, a_callB, a_methF, ls1, ls2, ls3, ls4, a_bind, S_inj, String.reduceEq, reduceIte, a_fin1, a_fin2, a_fin3, Bool.not_true, Bool.not_false, a_trB, a_lt, a_le, a_gt, a_ge, a_eq, a_ne, a_add, a_sub, a_neg, a_mod, a_inW, a_niW, a_niD, decide_true, decide_false, nT2, nT3, nL0, nL1, a_eqB, a_eqS, a_neS, L.de]
theorem start_347 {hp' : Hp} {b : List UInt8} {ls' : Ls} (h : hp[c]? = some (cur d (a : Int) (e : Int)))
    (H : sWhile (tNot (tOf (eMeth (orc n sc (k + 3)) (S "is_done") (eLoc (S "cursor")) []) trV)) (sAll [(sIf (tOf (eMeth (orc n sc (k + 3)) (S "skip_line_end") (eLoc (S "cursor")) []) trV) (sAll [(sExpr (eMeth (orc n sc (k + 3)) (S "append") (eLoc (S "codes")) [(eV (.int 10))])), sCont]) (sAll [])), (sAsg (S "code") (eMeth (orc n sc (k + 3)) (S "take") (eLoc (S "cursor")) [])), (sIf (tCmp2 (cmpV .Eq) (eLoc (S "code")) (eV (.int 92))) (sAll [(sExpr (eMeth (orc n sc (k + 3)) (S "extend") (eLoc (S "codes")) [(e1S (callV (orc n sc (k + 3))) (eV (.fn 340)) [(eLoc (S "cursor"))])])), sCont]) (sAll [])), (sIf (tCmp2 (cmpV .Eq) (eLoc (S "code")) (eV (.int 40))) (sAll [(sAsg (S "depth") (e2 (binV .Add) (eLoc (S "depth")) (eV (.int 1))))]) (sAll [])), (sIf (tCmp2 (cmpV .Eq) (eLoc (S "code")) (eV (.int 41))) (sAll [(sAsg (S "depth") (e2 (binV .Sub) (eLoc (S "depth")) (eV (.int 1)))), (sIf (tCmp2 (cmpV .Eq) (eLoc (S "depth")) (eV (.int 0))) (sAll [(sRet (e1S (callV (orc n sc (k + 3))) (eV (.bi .bytes)) [(eLoc (S "codes"))]))]) (sAll []))]) (sAll [])), (sExpr (eMeth (orc n sc (k + 3)) (S "append") (eLoc (S "codes")) [(eLoc (S "code"))]))]) n (bind1 (S "depth") (.int 1) (bind1 (S "codes") (.ref hp.length) (bind1 (S "opening") (.int ((a : Int) - 1)) (lsOf [(Str.ofString "cursor", .ref c)])))) (hp ++ [.list []]) = some (.ret (.bytes b), ls', hp')) :
    orc n sc (k + 4) 347 [.ref c] hp = some (.bytes b, hp') := by
  rw [orc_def rfl rfl rfl (den_347 ..)]
  simp only [body_347, a_sAsg, a_e1, a_e2, a_eS, a_eAll0, a_eLoc, a_eV, ls1, reduceIte, at_at h, nL0, a_sub]
  rw [a_sWhileR _ _ _ _ _ _ _ _ _ H]
  rfl
theorem LS.start : LS (bind1 (S "depth") (.int 1) (bind1 (S "codes") (.ref hp.length) (bind1 (S "opening") (.int ((a : Int) - 1)) (lsOf [(Str.ofString "cursor", .ref c)])))) c hp.length 1 := ⟨by simp only [a_sAll0, a_sExpr, a_sAsg, a_sIf, a_sRet, a_sCont, a_sOne, a_eV, a_eLoc, a_e1, a_e2, a_eAll0, a_eAll1, a_eS, a_e1S, a_eIf, a_eTr, a_eAnd1, a_eAnd2, a_tNot, a_tAnd0, a_tAnd1, a_tOr0, a_tOr1, a_tOf, a_tCmp2, a_tCmp3, a_eMeth, a_eO0, a_eO1, a_eCut, a_callF, a_callB, a_methF, ls1, ls2, ls3, ls4, a_bind, S_inj, String.reduceEq, reduceIte, a_fin1, a_fin2, a_fin3, Bool.not_true, Bool.not_false, a_trB, a_lt, a_le, a_gt, a_ge, a_eq, a_ne, a_add, a_sub, a_neg, a_mod, a_inW, a_niW, a_niD, decide_true, decide_false, nT2, nT3, nL0, nL1, a_eqB, a_eqS, a_neS], by simp only [a_sAll0, a_sExpr, a_sAsg, a_sIf, a_sRet, a_sCont, a_sOne, a_eV, a_eLoc, a_e1, a_e2, a_eAll0, a_eAll1, a_eS, a_e1S, a_eIf, a_eTr, a_eAnd1, a_eAnd2, a_tNot, a_tAnd0, a_tAnd1, a_tOr0, a_tOr1, a_tOf, a_tCmp2, a_tCmp3, a_eMeth, a_eO0, a_eO1, a_eCut, a_callF, a_callB, a_methF, ls1, ls2, ls3, ls4, a_bind, S_inj, String.reduceEq, reduceIte, a_fin1, a_fin2, a_fin3, Bool.not_true, Bool.not_false, a_trB, a_lt, a_le, a_gt, a_ge, a_eq, a_ne, a_add, a_sub, a_neg, a_mod, a_inW, a_niW, a_niD, decide_true, decide_false, nT2, nT3, nL0, nL1, a_eqB, a_eqS, a_neS], by simp only [a_sAll0, a_sExpr, a_sAsg, a_sIf, a_sRet, a_sCont, a_sOne, a_eV, a_eLoc, a_e1, a_e2, a_eAll0, a_eAll1, a_eS, a_e1S, a_eIf, a_eTr, a_eAnd1, a_eAnd2, a_tNot, a_tAnd0, a_tAnd1, a_tOr0, a_tOr1, a_tOf, a_tCmp2, a_tCmp3, a_eMeth, a_eO0, a_eO1, a_eCut, a_callF, a_callB, a_methF, ls1, ls2, ls3, ls4, a_bind, S_inj, String.reduceEq, reduceIte, a_fin1, a_fin2, a_fin3, Bool.not_true, Bool.not_false, a_trB, a_lt, a_le, a_gt, a_ge, a_eq, a_ne, a_add, a_sub, a_neg, a_mod, a_inW, a_niW, a_niD, decide_true, decide_false, nT2, nT3, nL0, nL1, a_eqB, a_eqS, a_neS]⟩
/-- (a(b)\)) -/
theorem sp_347a (h : hp[c]? = some (cur d a e)) (W : Win d a e (97 :: 40 :: 98 :: 41 :: 92 :: 41 :: 41 :: w)) (hn : 100 ≤ n) : ∃ hp', orc n sc (k + 4) 347 [.ref c] hp = some (.bytes [97, 40, 98, 41, 41], hp') ∧ St c (cur d ((a + 7 : Nat) : Int) e) hp hp' := by
  obtain ⟨n', rfl⟩ : ∃ n', n = n' + 6 := ⟨n - 6, by omega⟩
  have ne : c ≠ hp.length := Nat.ne_of_lt (lt_of_at h)
  have h0 := (St.push h [.list []]).at_
  obtain ⟨l1, h1, q1, L1, z1⟩ := plain_347 (n := n' + 6) (sc := sc) (k := k) (l := []) LS.start ne h0 (new_at hp _) (by simp) W (by decide)
  obtain ⟨l2, h2, q2, L2, z2⟩ := plain_347 (n := n' + 6) (sc := sc) (k := k) L1 ne z1.at1 z1.at2 (by simp) W.tail (by decide)
  obtain ⟨l3, h3, q3, L3, z3⟩ := plain_347 (n := n' + 6) (sc := sc) (k := k) L2 ne z2.at1 z2.at2 (by simp) W.tail.tail (by decide)
  obtain ⟨l4, h4, q4, L4, z4⟩ := close_347 (n := n' + 6) (sc := sc) (k := k) L3 ne z3.at1 z3.at2 (by simp) W.tail.tail.tail
  obtain ⟨l5, h5, q5, L5, z5⟩ := esc_347 (n := n' + 6) (sc := sc) (k := k) (ys := [41]) L4 ne z4.at1 z4.at2 (by simp) (by simp) W.tail.tail.tail.tail (fun hp h => sp_340a h W.tail.tail.tail.tail.tail)
  obtain ⟨l6, q6⟩ := last_347 (n := n' + 6) (sc := sc) (k := k) (b := [97, 40, 98, 41, 41]) L5 ne z5.at1 z5.at2 (by simp) rfl W.tail.tail.tail.tail.tail.tail n'
  refine ⟨_, start_347 h ((q1 _).trans ((q2 _).trans ((q3 _).trans ((q4 _).trans ((q5 _).trans q6))))), ?_⟩
  have zz := (((z1.trans z2).trans z3).trans z4).trans z5
  have z6 := St.set (o' := cur d ((a + 1 + 1 + 1 + 1 + 1 + 1 + 1 : Nat) : Int) e) zz.at1
  exact S2.st (p2 := _) ⟨z6.at_, z6.keep _ _ (Ne.symm ne) zz.at2, fun i x hi hj e => z6.keep i x hi (zz.keep i x hi hj e)⟩
/-- (\101\ and a line's end) -/
theorem sp_347b (h : hp[c]? = some (cur d a e)) (W : Win d a e (92 :: 49 :: 48 :: 49 :: 92 :: 10 :: 41 :: w)) (hn : 100 ≤ n) : ∃ hp', orc n sc (k + 4) 347 [.ref c] hp = some (.bytes [65], hp') ∧ St c (cur d ((a + 7 : Nat) : Int) e) hp hp' := by
  obtain ⟨n', rfl⟩ : ∃ n', n = n' + 3 := ⟨n - 3, by omega⟩
  have ne : c ≠ hp.length := Nat.ne_of_lt (lt_of_at h)
  have h0 := (St.push h [.list []]).at_
  obtain ⟨l1, h1, q1, L1, z1⟩ := esc_347 (n := n' + 3) (sc := sc) (k := k) (l := []) (ys := [65]) LS.start ne h0 (new_at hp _) (by simp) (by simp) W (fun hp h => sp_340b h W.tail hn)
  obtain ⟨l2, h2, q2, L2, z2⟩ := esc_347 (n := n' + 3) (sc := sc) (k := k) (ys := []) L1 ne z1.at1 z1.at2 (by simp) (by simp) W.tail.tail.tail.tail (fun hp h => sp_340c h W.tail.tail.tail.tail.tail)
  obtain ⟨l6, q6⟩ := last_347 (n := n' + 3) (sc := sc) (k := k) (b := [65]) L2 ne z2.at1 z2.at2 (by simp) rfl W.tail.tail.tail.tail.tail.tail n'
  refine ⟨_, start_347 h ((q1 _).trans ((q2 _).trans q6)), ?_⟩
  have zz := z1.trans z2
  have z6 := St.set (o' := cur d ((a + 4 + 2 + 1 : Nat) : Int) e) zz.at1
  exact S2.st (p2 := _) ⟨z6.at_, z6.keep _ _ (Ne.symm ne) zz.at2, fun i x hi hj e => z6.keep i x hi (zz.keep i x hi hj e)⟩
end
end Mine

open PySem PySem.W PyProof.Rows PySem.Calls
set_option Elab.async false
set_option maxRecDepth 100000
set_option maxHeartbeats 1000000
set_option linter.all false
namespace Mine
section
variable {n : Nat} {sc : Addr × List Int} {k : Nat} {hp : Hp} {c : Nat} {d w : List UInt8} {a e : Nat}
theorem c_nil {e : Ev} {x : Str} {l : Nat} : compGo (fun _ => True) e x l [] hp = some hp := by
  rw [compGo, if_pos trivial]
theorem c_step {e : Ev} {x : Str} {l : Nat} {v u : V} {vs xs : List V} {h1 : Hp} (h : e (bind1 x v fun _ => none) hp = some (u, h1)) (hl : h1[l]? = some (.list xs)) (hx : xs.length ≤ 1000000) : compGo (fun _ => True) e x l (v :: vs) hp = compGo (fun _ => True) e x l vs (h1.set l (.list (xs ++ [u]))) := by
  rw [compGo, if_pos trivial, h]
  dsimp only
  rw [hl]
  dsimp only
  rw [if_pos hx]
theorem a_eCompR {e : Ev} {x : Str} {args : List Ev} {ls : Ls} {h1 h2 : Hp} {vs : List V} {is : List Int} (ha : eAll args ls hp = some (vs, h1)) (hr : rangeOf vs = some is) (hc : compGo (fun _ => True) e x h1.length (is.map .int) (h1 ++ [O.list []]) = some h2) : eCompR e x args ls hp = some (.ref h1.length, h2) := by
  unfold eCompR
  rw [ha]
  dsimp only
  rw [hr]
  dsimp only
  rw [hc]
theorem a_idxL {l i : Nat} {xs : List V} {v : V} (h : hp[l]? = some (.list xs)) (hx : xs[i]? = some v) (hi : i < 1000000) : idxV (.ref l) (.int (i : Int)) hp = some (v, hp) := by
  unfold idxV
  dsimp only
  rw [if_pos (by omega), h]
  dsimp only
  rw [Int.toNat_natCast, hx]
theorem a_idxT {l i : Nat} {xs : List V} {v : V} (h : hp[l]? = some (.tuple xs)) (hx : xs[i]? = some v) (hi : i < 1000000) : idxV (.ref l) (.int (i : Int)) hp = some (v, hp) := by
  unfold idxV
  dsimp only
  rw [if_pos (by omega), h]
  dsimp only
  rw [Int.toNat_natCast, hx]
theorem a_cell {g : Nat} {v : V} {ls : Ls} (h : hp[g]? = some (.cell (some v))) : eCell (some g) ls hp = some (v, hp) := by
  unfold eCell
  dsimp only
  rw [h]
/-- a figure of a hex string -/
theorem half_352 {x : UInt8} {v : Nat} {ls : Ls} {g s : Nat} {l : List Nat} (hc : ls (S "cursor") = some (.ref c)) (hg : hp[g]? = some (.cell (some (.ref s)))) (ne : c ≠ s) (ng : c ≠ g) (h : hp[c]? = some (cur d a e)) (hs : hp[s]? = some (.list (l.map iv))) (hl : l.length ≤ 1000) (W : Win d a e (x :: w)) (hx : x ≠ 62)
    (H : ∀ hp, orc n sc (k + 1) 311 [.int (x.toNat : Int)] hp = some (.int (v : Int), hp)) :
    ∃ ls' hp', (∀ m, sWhile (tNot (tOf (eMeth (orc n sc (k + 1)) (S "is_done") (eLoc (S "cursor")) []) trV)) (sAll [(sAsg (S "code") (eMeth (orc n sc (k + 1)) (S "take") (eLoc (S "cursor")) [])), (sIf (tCmp2 (cmpV .Eq) (eLoc (S "code")) (eV (.int 62))) (sAll [(sIf (tCmp2 (cmpV .Eq) (e2 (binV .Mod) (e1S (callV (orc n sc (k + 1))) (eV (.bi .len)) [(eCell (some g))]) (eV (.int 2))) (eV (.int 1))) (sAll [(sExpr (eMeth (orc n sc (k + 1)) (S "append") (eCell (some g)) [(eV (.int 0))]))]) (sAll [])), (sRet (e1S (callV (orc n sc (k + 1))) (eV (.bi .bytes)) [(eCompR (e2 (binV .Add) (e2 (binV .Mult) (eV (.int 16)) (e2 idxV (eCell (some g)) (eLoc (S "place")))) (e2 idxV (eCell (some g)) (e2 (binV .Add) (eLoc (S "place")) (eV (.int 1))))) (S "place") [(eV (.int 0)), (e1S (callV (orc n sc (k + 1))) (eV (.bi .len)) [(eCell (some g))]), (eV (.int 2))])]))]) (sAll [])), (sAsg (S "worth") (e1S (callV (orc n sc (k + 1))) (eV (.fn 311)) [(eLoc (S "code"))])), (sIf (tCmp2 (cmpV .GtE) (eLoc (S "worth")) (eV (.int 0))) (sAll [(sExpr (eMeth (orc n sc (k + 1)) (S "append") (eCell (some g)) [(eLoc (S "worth"))]))]) (sAll [(sIf (tNot (tOf (e1S (callV (orc n sc (k + 1))) (eV (.fn 70)) [(eLoc (S "code"))]) trV)) (sAll [sNo]) (sAll []))]))]) (m + 1) ls hp = sWhile (tNot (tOf (eMeth (orc n sc (k + 1)) (S "is_done") (eLoc (S "cursor")) []) trV)) (sAll [(sAsg (S "code") (eMeth (orc n sc (k + 1)) (S "take") (eLoc (S "cursor")) [])), (sIf (tCmp2 (cmpV .Eq) (eLoc (S "code")) (eV (.int 62))) (sAll [(sIf (tCmp2 (cmpV .Eq) (e2 (binV .Mod) (e1S (callV (orc n sc (k + 1))) (eV (.bi .len)) [(eCell (some g))]) (eV (.int 2))) (eV (.int 1))) (sAll [(sExpr (eMeth (orc n sc (k + 1)) (S "append") (eCell (some g)) [(eV (.int 0))]))]) (sAll [])), (sRet (e1S (callV (orc n sc (k + 1))) (eV (.bi .bytes)) [(eCompR (e2 (binV .Add) (e2 (binV .Mult) (eV (.int 16)) (e2 idxV (eCell (some g)) (eLoc (S "place")))) (e2 idxV (eCell (some g)) (e2 (binV .Add) (eLoc (S "place")) (eV (.int 1))))) (S "place") [(eV (.int 0)), (e1S (callV (orc n sc (k + 1))) (eV (.bi .len)) [(eCell (some g))]), (eV (.int 2))])]))]) (sAll [])), (sAsg (S "worth") (e1S (callV (orc n sc (k + 1))) (eV (.fn 311)) [(eLoc (S "code"))])), (sIf (tCmp2 (cmpV .GtE) (eLoc (S "worth")) (eV (.int 0))) (sAll [(sExpr (eMeth (orc n sc (k + 1)) (S "append") (eCell (some g)) [(eLoc (S "worth"))]))]) (sAll [(sIf (tNot (tOf (e1S (callV (orc n sc (k + 1))) (eV (.fn 70)) [(eLoc (S "code"))]) trV)) (sAll [sNo]) (sAll []))]))]) m ls' hp') ∧ ls' (S "cursor") = some (.ref c) ∧ S2 c (cur d ((a + 1 : Nat) : Int) e) s (.list ((l ++ [v]).map iv)) hp hp' := by
  have st := (St.set (o' := cur d ((a + 1 : Nat) : Int) e) h)
  have hs1 := st.keep _ _ (Ne.symm ne) hs
  have hg1 := st.keep _ _ (Ne.symm ng) hg
  have sz := S2.of ne st (St.set (o' := .list ((l ++ [v]).map iv)) hs1)
  have e1 : ¬ ((x.toNat : Int) = 62) := fun q => hx (UInt8.toNat_inj.mp (by show x.toNat = 62; omega))
  refine ⟨_, _, fun m => w_step (h1 := hp) (l2 := bind1 (S "worth") (.int (v : Int)) (bind1 (S "code") (.int (x.toNat : Int)) ls)) (h2 := _) ?_ ?_, ?_, sz⟩
  · simp only [a_sAll0, a_sExpr, a_sAsg, a_sIf, a_sRet, a_sCont, a_sOne, a_eV, a_eLoc, a_e1, a_e2, a_eAll0, a_eAll1, a_eS, a_e1S, a_eIf, a_eTr, a_eAnd1, a_eAnd2, a_tNot, a_tAnd0, a_tAnd1, a_tOr0, a_tOr1, a_tOf, a_tCmp2, a_tCmp3, a_eMeth, a_eO0, a_eO1, a_eCut, a_callF, a_callB, a_methF, ls1, ls2, ls3, ls4, a_bind, S_inj, String.reduceEq, reduceIte, a_fin1, a_fin2, a_fin3, Bool.not_true, Bool.not_false, a_trB, a_lt, a_le, a_gt, a_ge, a_eq, a_ne, a_add, a_sub, a_neg, a_mod, a_inW, a_niW, a_niD, decide_true, decide_false, nT2, nT3, nL0, nL1, a_eqB, a_eqS, a_neS, hc, me_done h, sp_106f h W]
  · simp only [a_sIf, a_sAll0, a_sAsg, a_sIf, a_sRet, a_sCont, a_sOne, a_eV, a_eLoc, a_e1, a_e2, a_eAll0, a_eAll1, a_eS, a_e1S, a_eIf, a_eTr, a_eAnd1, a_eAnd2, a_tNot, a_tAnd0, a_tAnd1, a_tOr0, a_tOr1, a_tOf, a_tCmp2, a_tCmp3, a_eMeth, a_eO0, a_eO1, a_eCut, a_callF, a_callB, a_methF, ls1, ls2, ls3, ls4, a_bind, S_inj, String.reduceEq, reduceIte, a_fin1, a_fin2, a_fin3, Bool.not_true, Bool.not_false, a_trB, a_lt, a_le, a_gt, a_ge, a_eq, a_ne, a_add, a_sub, a_neg, a_mod, a_inW, a_niW, a_niD, decide_true, decide_false, nT2, nT3, nL0, nL1, a_eqB, a_eqS, a_neS, hc, me_take h, sp_121 h W, e1, H, nn, a_then0]
    rw [sExpr_append (v := iv v) (a_cell hg1) hs1 (by simp only [a_sAll0, a_sExpr, a_sAsg, a_sIf, a_sRet, a_sCont, a_sOne, a_eV, a_eLoc, a_e1, a_e2, a_eAll0, a_eAll1, a_eS, a_e1S, a_eIf, a_eTr, a_eAnd1, a_eAnd2, a_tNot, a_tAnd0, a_tAnd1, a_tOr0, a_tOr1, a_tOf, a_tCmp2, a_tCmp3, a_eMeth, a_eO0, a_eO1, a_eCut, a_callF, a_callB, a_methF, ls1, ls2, ls3, ls4, a_bind, S_inj, String.reduceEq, reduceIte, a_fin1, a_fin2, a_fin3, Bool.not_true, Bool.not_false, a_trB, a_lt, a_le, a_gt, a_ge, a_eq, a_ne, a_add, a_sub, a_neg, a_mod, a_inW, a_niW, a_niD, decide_true, decide_false, nT2, nT3, nL0, nL1, a_eqB, a_eqS, a_neS]; rfl) hs1 (by rw [List.length_map]; omega), a_sAll0, List.map_append]
    rfl
  · simp only [a_sAll0, a_sExpr, a_sAsg, a_sIf, a_sRet, a_sCont, a_sOne, a_eV, a_eLoc, a_e1, a_e2, a_eAll0, a_eAll1, a_eS, a_e1S, a_eIf, a_eTr, a_eAnd1, a_eAnd2, a_tNot, a_tAnd0, a_tAnd1, a_tOr0, a_tOr1, a_tOf, a_tCmp2, a_tCmp3, a_eMeth, a_eO0, a_eO1, a_eCut, a_callF, a_callB, a_methF, ls1, ls2, ls3, ls4, a_bind, S_inj, String.reduceEq, reduceIte, a_fin1, a_fin2, a_fin3, Bool.not_true, Bool.not_false, a_trB, a_lt, a_le, a_gt, a_ge, a_eq, a_ne, a_add, a_sub, a_neg, a_mod, a_inW, a_niW, a_niD, decide_true, decide_false, nT2, nT3, nL0, nL1, a_eqB, a_eqS, a_neS, hc]
/-- a white within a hex string -/
theorem white_352 {x : UInt8} {ls : Ls} {g : Nat} (hc : ls (S "cursor") = some (.ref c)) (h : hp[c]? = some (cur d a e)) (W : Win d a e (x :: w)) (hx : x ≠ 62) (hw : isW x = true)
    (H : ∀ hp, orc n sc (k + 1) 311 [.int (x.toNat : Int)] hp = some (.int (-1), hp)) :
    ∃ ls' hp', (∀ m, sWhile (tNot (tOf (eMeth (orc n sc (k + 1)) (S "is_done") (eLoc (S "cursor")) []) trV)) (sAll [(sAsg (S "code") (eMeth (orc n sc (k + 1)) (S "take") (eLoc (S "cursor")) [])), (sIf (tCmp2 (cmpV .Eq) (eLoc (S "code")) (eV (.int 62))) (sAll [(sIf (tCmp2 (cmpV .Eq) (e2 (binV .Mod) (e1S (callV (orc n sc (k + 1))) (eV (.bi .len)) [(eCell (some g))]) (eV (.int 2))) (eV (.int 1))) (sAll [(sExpr (eMeth (orc n sc (k + 1)) (S "append") (eCell (some g)) [(eV (.int 0))]))]) (sAll [])), (sRet (e1S (callV (orc n sc (k + 1))) (eV (.bi .bytes)) [(eCompR (e2 (binV .Add) (e2 (binV .Mult) (eV (.int 16)) (e2 idxV (eCell (some g)) (eLoc (S "place")))) (e2 idxV (eCell (some g)) (e2 (binV .Add) (eLoc (S "place")) (eV (.int 1))))) (S "place") [(eV (.int 0)), (e1S (callV (orc n sc (k + 1))) (eV (.bi .len)) [(eCell (some g))]), (eV (.int 2))])]))]) (sAll [])), (sAsg (S "worth") (e1S (callV (orc n sc (k + 1))) (eV (.fn 311)) [(eLoc (S "code"))])), (sIf (tCmp2 (cmpV .GtE) (eLoc (S "worth")) (eV (.int 0))) (sAll [(sExpr (eMeth (orc n sc (k + 1)) (S "append") (eCell (some g)) [(eLoc (S "worth"))]))]) (sAll [(sIf (tNot (tOf (e1S (callV (orc n sc (k + 1))) (eV (.fn 70)) [(eLoc (S "code"))]) trV)) (sAll [sNo]) (sAll []))]))]) (m + 1) ls hp = sWhile (tNot (tOf (eMeth (orc n sc (k + 1)) (S "is_done") (eLoc (S "cursor")) []) trV)) (sAll [(sAsg (S "code") (eMeth (orc n sc (k + 1)) (S "take") (eLoc (S "cursor")) [])), (sIf (tCmp2 (cmpV .Eq) (eLoc (S "code")) (eV (.int 62))) (sAll [(sIf (tCmp2 (cmpV .Eq) (e2 (binV .Mod) (e1S (callV (orc n sc (k + 1))) (eV (.bi .len)) [(eCell (some g))]) (eV (.int 2))) (eV (.int 1))) (sAll [(sExpr (eMeth (orc n sc (k + 1)) (S "append") (eCell (some g)) [(eV (.int 0))]))]) (sAll [])), (sRet (e1S (callV (orc n sc (k + 1))) (eV (.bi .bytes)) [(eCompR (e2 (binV .Add) (e2 (binV .Mult) (eV (.int 16)) (e2 idxV (eCell (some g)) (eLoc (S "place")))) (e2 idxV (eCell (some g)) (e2 (binV .Add) (eLoc (S "place")) (eV (.int 1))))) (S "place") [(eV (.int 0)), (e1S (callV (orc n sc (k + 1))) (eV (.bi .len)) [(eCell (some g))]), (eV (.int 2))])]))]) (sAll [])), (sAsg (S "worth") (e1S (callV (orc n sc (k + 1))) (eV (.fn 311)) [(eLoc (S "code"))])), (sIf (tCmp2 (cmpV .GtE) (eLoc (S "worth")) (eV (.int 0))) (sAll [(sExpr (eMeth (orc n sc (k + 1)) (S "append") (eCell (some g)) [(eLoc (S "worth"))]))]) (sAll [(sIf (tNot (tOf (e1S (callV (orc n sc (k + 1))) (eV (.fn 70)) [(eLoc (S "code"))]) trV)) (sAll [sNo]) (sAll []))]))]) m ls' hp') ∧ ls' (S "cursor") = some (.ref c) ∧ St c (cur d ((a + 1 : Nat) : Int) e) hp hp' := by
  have st := (St.set (o' := cur d ((a + 1 : Nat) : Int) e) h)
  have e1 : ¬ ((x.toNat : Int) = 62) := fun q => hx (UInt8.toNat_inj.mp (by show x.toNat = 62; omega))
  have e2 : ¬ ((0 : Int) ≤ -1) := by decide
  refine ⟨_, _, fun m => w_step (h1 := hp) (l2 := bind1 (S "worth") (.int (-1)) (bind1 (S "code") (.int (x.toNat : Int)) ls)) (h2 := _) ?_ ?_, ?_, st⟩
  · simp only [a_sAll0, a_sExpr, a_sAsg, a_sIf, a_sRet, a_sCont, a_sOne, a_eV, a_eLoc, a_e1, a_e2, a_eAll0, a_eAll1, a_eS, a_e1S, a_eIf, a_eTr, a_eAnd1, a_eAnd2, a_tNot, a_tAnd0, a_tAnd1, a_tOr0, a_tOr1, a_tOf, a_tCmp2, a_tCmp3, a_eMeth, a_eO0, a_eO1, a_eCut, a_callF, a_callB, a_methF, ls1, ls2, ls3, ls4, a_bind, S_inj, String.reduceEq, reduceIte, a_fin1, a_fin2, a_fin3, Bool.not_true, Bool.not_false, a_trB, a_lt, a_le, a_gt, a_ge, a_eq, a_ne, a_add, a_sub, a_neg, a_mod, a_inW, a_niW, a_niD, decide_true, decide_false, nT2, nT3, nL0, nL1, a_eqB, a_eqS, a_neS, hc, me_done h, sp_106f h W]
  · simp only [a_sIf, a_sAll0, a_sExpr, a_sAsg, a_sIf, a_sRet, a_sCont, a_sOne, a_eV, a_eLoc, a_e1, a_e2, a_eAll0, a_eAll1, a_eS, a_e1S, a_eIf, a_eTr, a_eAnd1, a_eAnd2, a_tNot, a_tAnd0, a_tAnd1, a_tOr0, a_tOr1, a_tOf, a_tCmp2, a_tCmp3, a_eMeth, a_eO0, a_eO1, a_eCut, a_callF, a_callB, a_methF, ls1, ls2, ls3, ls4, a_bind, S_inj, String.reduceEq, reduceIte, a_fin1, a_fin2, a_fin3, Bool.not_true, Bool.not_false, a_trB, a_lt, a_le, a_gt, a_ge, a_eq, a_ne, a_add, a_sub, a_neg, a_mod, a_inW, a_niW, a_niD, decide_true, decide_false, nT2, nT3, nL0, nL1, a_eqB, a_eqS, a_neS, hc, me_take h, sp_121 h W, e1, e2, H, sp_70, hw, a_then0]
  · simp only [a_sAll0, a_sExpr, a_sAsg, a_sIf, a_sRet, a_sCont, a_sOne, a_eV, a_eLoc, a_e1, a_e2, a_eAll0, a_eAll1, a_eS, a_e1S, a_eIf, a_eTr, a_eAnd1, a_eAnd2, a_tNot, a_tAnd0, a_tAnd1, a_tOr0, a_tOr1, a_tOf, a_tCmp2, a_tCmp3, a_eMeth, a_eO0, a_eO1, a_eCut, a_callF, a_callB, a_methF, ls1, ls2, ls3, ls4, a_bind, S_inj, String.reduceEq, reduceIte, a_fin1, a_fin2, a_fin3, Bool.not_true, Bool.not_false, a_trB, a_lt, a_le, a_gt, a_ge, a_eq, a_ne, a_add, a_sub, a_neg, a_mod, a_inW, a_niW, a_niD, decide_true, decide_false, nT2, nT3, nL0, nL1, a_eqB, a_eqS, a_neS, hc]
/-- the end of a hex string of two figures -/
theorem last_352 {p q : Nat} {ls : Ls} {g s : Nat} (hc : ls (S "cursor") = some (.ref c)) (hg : hp[g]? = some (.cell (some (.ref s)))) (ne : c ≠ s) (ng : c ≠ g) (h : hp[c]? = some (cur d a e)) (hs : hp[s]? = some (.list ([p, q].map iv))) (hp1 : p < 16) (hq : q < 16) (W : Win d a e (62 :: w)) (m : Nat) :
    ∃ ls' hp', sWhile (tNot (tOf (eMeth (orc n sc (k + 1)) (S "is_done") (eLoc (S "cursor")) []) trV)) (sAll [(sAsg (S "code") (eMeth (orc n sc (k + 1)) (S "take") (eLoc (S "cursor")) [])), (sIf (tCmp2 (cmpV .Eq) (eLoc (S "code")) (eV (.int 62))) (sAll [(sIf (tCmp2 (cmpV .Eq) (e2 (binV .Mod) (e1S (callV (orc n sc (k + 1))) (eV (.bi .len)) [(eCell (some g))]) (eV (.int 2))) (eV (.int 1))) (sAll [(sExpr (eMeth (orc n sc (k + 1)) (S "append") (eCell (some g)) [(eV (.int 0))]))]) (sAll [])), (sRet (e1S (callV (orc n sc (k + 1))) (eV (.bi .bytes)) [(eCompR (e2 (binV .Add) (e2 (binV .Mult) (eV (.int 16)) (e2 idxV (eCell (some g)) (eLoc (S "place")))) (e2 idxV (eCell (some g)) (e2 (binV .Add) (eLoc (S "place")) (eV (.int 1))))) (S "place") [(eV (.int 0)), (e1S (callV (orc n sc (k + 1))) (eV (.bi .len)) [(eCell (some g))]), (eV (.int 2))])]))]) (sAll [])), (sAsg (S "worth") (e1S (callV (orc n sc (k + 1))) (eV (.fn 311)) [(eLoc (S "code"))])), (sIf (tCmp2 (cmpV .GtE) (eLoc (S "worth")) (eV (.int 0))) (sAll [(sExpr (eMeth (orc n sc (k + 1)) (S "append") (eCell (some g)) [(eLoc (S "worth"))]))]) (sAll [(sIf (tNot (tOf (e1S (callV (orc n sc (k + 1))) (eV (.fn 70)) [(eLoc (S "code"))]) trV)) (sAll [sNo]) (sAll []))]))]) (m + 1) ls hp = some (.ret (.bytes [(16 * p + q).toUInt8]), ls', hp') ∧ St c (cur d ((a + 1 : Nat) : Int) e) hp hp' := by
  have st := (St.set (o' := cur d ((a + 1 : Nat) : Int) e) h)
  have hs1 := st.keep _ _ (Ne.symm ne) hs
  have hg1 := st.keep _ _ (Ne.symm ng) hg
  have tk : orc n sc (k + 1) 121 [.ref c] hp = some (.int 62, hp.set c (cur d ((a + 1 : Nat) : Int) e)) := sp_121 h W
  generalize hp.set c (cur d ((a + 1 : Nat) : Int) e) = h1 at st hs1 hg1 tk
  have ll : callB .len [.ref s] h1 = some (.int 2, h1) := a_lenL h1 hs1 (by simp)
  have st2 := st.trans ((St.push st.at_ [O.list []]))
  have hs2 := (St.push hs1 [O.list []]).at_
  have hg2 := (St.push hg1 [O.list []]).at_
  have i0 : idxV (.ref s) (.int 0) (h1 ++ [O.list []]) = some (.int (p : Int), h1 ++ [O.list []]) := a_idxL (i := 0) hs2 rfl (by omega)
  have i1 : idxV (.ref s) (.int 1) (h1 ++ [O.list []]) = some (.int (q : Int), h1 ++ [O.list []]) := a_idxL (i := 1) hs2 rfl (by omega)
  have cl : c ≠ h1.length := Nat.ne_of_lt (lt_of_at st.at_)
  have sz := St.set (o' := .list [V.int (16 * (p : Int) + (q : Int))]) (new_at h1 (.list []))
  have cp : eCompR (e2 (binV .Add) (e2 (binV .Mult) (eV (.int 16)) (e2 idxV (eCell (some g)) (eLoc (S "place")))) (e2 idxV (eCell (some g)) (e2 (binV .Add) (eLoc (S "place")) (eV (.int 1))))) (S "place") [(eV (.int 0)), (e1S (callV (orc n sc (k + 1))) (eV (.bi .len)) [(eCell (some g))]), (eV (.int 2))] (bind1 (S "code") (.int 62) ls) h1 = some (.ref h1.length, (h1 ++ [O.list []]).set h1.length (O.list [V.int (16 * (p : Int) + (q : Int))])) := by
    refine a_eCompR (is := [0]) (vs := [.int 0, .int 2, .int 2]) ?_ rfl ?_
    · simp only [a_sAll0, a_sExpr, a_sAsg, a_sIf, a_sRet, a_sCont, a_sOne, a_eV, a_eLoc, a_e1, a_e2, a_eAll0, a_eAll1, a_eS, a_e1S, a_eIf, a_eTr, a_eAnd1, a_eAnd2, a_tNot, a_tAnd0, a_tAnd1, a_tOr0, a_tOr1, a_tOf, a_tCmp2, a_tCmp3, a_eMeth, a_eO0, a_eO1, a_eCut, a_callF, a_callB, a_methF, ls1, ls2, ls3, ls4, a_bind, S_inj, String.reduceEq, reduceIte, a_fin1, a_fin2, a_fin3, Bool.not_true, Bool.not_false, a_trB, a_lt, a_le, a_gt, a_ge, a_eq, a_ne, a_add, a_sub, a_neg, a_mod, a_inW, a_niW, a_niD, decide_true, decide_false, nT2, nT3, nL0, nL1, a_eqB, a_eqS, a_neS, a_cell hg1, ll]
    · rw [List.map_cons, c_step (u := .int (16 * (p : Int) + (q : Int))) ?_ (new_at h1 (.list [])) (Nat.zero_le _)]
      · rw [List.map_nil, c_nil]; rfl
      · simp only [a_sAll0, a_sExpr, a_sAsg, a_sIf, a_sRet, a_sCont, a_sOne, a_eV, a_eLoc, a_e1, a_e2, a_eAll0, a_eAll1, a_eS, a_e1S, a_eIf, a_eTr, a_eAnd1, a_eAnd2, a_tNot, a_tAnd0, a_tAnd1, a_tOr0, a_tOr1, a_tOf, a_tCmp2, a_tCmp3, a_eMeth, a_eO0, a_eO1, a_eCut, a_callF, a_callB, a_methF, ls1, ls2, ls3, ls4, a_bind, S_inj, String.reduceEq, reduceIte, a_fin1, a_fin2, a_fin3, Bool.not_true, Bool.not_false, a_trB, a_lt, a_le, a_gt, a_ge, a_eq, a_ne, a_add, a_sub, a_neg, a_mod, a_inW, a_niW, a_niD, decide_true, decide_false, nT2, nT3, nL0, nL1, a_eqB, a_eqS, a_neS, a_cell hg2, i0, i1, mulS 16 p _ (by decide) (Nat.lt_trans (show ((p : Int)).natAbs < 16 by omega) (by decide)), Int.reduceAdd]
  have cb : callB .bytes [.ref h1.length] ((h1 ++ [O.list []]).set h1.length (O.list [V.int (16 * (p : Int) + (q : Int))])) = some (.bytes [(16 * p + q).toUInt8], (h1 ++ [O.list []]).set h1.length (O.list [V.int (16 * (p : Int) + (q : Int))])) := by
    unfold callB bytB
    dsimp only
    rw [sz.at_]
    dsimp only
    rw [if_pos (by simp)]
    have ho : octets [V.int (16 * (p : Int) + (q : Int))] = some [(16 * (p : Int) + (q : Int)).toNat.toUInt8] := by
      show (if 0 ≤ 16 * (p : Int) + (q : Int) ∧ 16 * (p : Int) + (q : Int) < 256 then (octets []).map ((16 * (p : Int) + (q : Int)).toNat.toUInt8 :: ·) else none) = _
      rw [if_pos (by omega)]
      rfl
    have : (16 * (p : Int) + (q : Int)).toNat = 16 * p + q := by omega
    rw [ho, this]
    rfl
  refine ⟨bind1 (S "code") (.int 62) ls, _, w_ret (h1 := hp) ?_ ?_, st2.at_ |> fun z => ⟨sz.keep _ _ cl z, fun i x hi hx => sz.keep i x (fun q => by
    have := lt_of_at (st.keep i x hi hx); omega) (st2.keep i x hi hx)⟩⟩
  · simp only [a_sAll0, a_sExpr, a_sAsg, a_sIf, a_sRet, a_sCont, a_sOne, a_eV, a_eLoc, a_e1, a_e2, a_eAll0, a_eAll1, a_eS, a_e1S, a_eIf, a_eTr, a_eAnd1, a_eAnd2, a_tNot, a_tAnd0, a_tAnd1, a_tOr0, a_tOr1, a_tOf, a_tCmp2, a_tCmp3, a_eMeth, a_eO0, a_eO1, a_eCut, a_callF, a_callB, a_methF, ls1, ls2, ls3, ls4, a_bind, S_inj, String.reduceEq, reduceIte, a_fin1, a_fin2, a_fin3, Bool.not_true, Bool.not_false, a_trB, a_lt, a_le, a_gt, a_ge, a_eq, a_ne, a_add, a_sub, a_neg, a_mod, a_inW, a_niW, a_niD, decide_true, decide_false, nT2, nT3, nL0, nL1, a_eqB, a_eqS, a_neS, hc, me_done h, sp_106f h W]
  · have e2 : ¬ ((2 : Int) = 0) := by decide
    have e3 : ¬ (Int.fmod 2 2 = 1) := by decide
    simp only [a_sIf, a_sAll0, a_sExpr, a_sAsg, a_sIf, a_sRet, a_sCont, a_sOne, a_eV, a_eLoc, a_e1, a_e2, a_eAll0, a_eAll1, a_eS, a_e1S, a_eIf, a_eTr, a_eAnd1, a_eAnd2, a_tNot, a_tAnd0, a_tAnd1, a_tOr0, a_tOr1, a_tOf, a_tCmp2, a_tCmp3, a_eMeth, a_eO0, a_eO1, a_eCut, a_callF, a_callB, a_methF, ls1, ls2, ls3, ls4, a_bind, S_inj, String.reduceEq, reduceIte, a_fin1, a_fin2, a_fin3, Bool.not_true, Bool.not_false, a_trB, a_lt, a_le, a_gt, a_ge, a_eq, a_ne, a_add, a_sub, a_neg, a_mod, a_inW, a_niW, a_niD, decide_true, decide_false, nT2, nT3, nL0, nL1, a_eqB, a_eqS, a_neS, hc, me_take h, tk, a_cell hg1, ll, e2, e3, cp, cb, a_then0, a_then1]
end
end Mine

open PySem PySem.W PyProof.Rows PySem.Calls
set_option Elab.async false
set_option maxRecDepth 100000
set_option maxHeartbeats 1000000
set_option linter.all false
namespace Mine
theorem a_sAsgC {e : Ev} {ls : Ls} {hp h1 : Hp} {v : V} {i : Nat} {o : Option V} (h : e ls hp = some (v, h1)) (hi : h1[i]? = some (.cell o)) (es : List Ex) : sAll (sAsgC (some i) e :: es) ls hp = sAll es ls (h1.set i (.cell (some v))) := by
  refine a_sOne _ _ _ _ _ _ ?_
  unfold sAsgC
  rw [h]
  dsimp only
  rw [hi]
section
variable {n : Nat} {sc : Addr × List Int} {k : Nat} {hp : Hp} {c : Nat} {d w : List UInt8} {a e : Nat}
/-- where the hex string's list of halves comes to lie -/
noncomputable def hA (hp : Hp) : Hp := ((hp ++ [O.cell none]) ++ [O.list []]).set hp.length (.cell (some (.ref (hp ++ [O.cell none]).length)))
theorem hA0 (hp : Hp) : ((hp ++ [O.cell none]) ++ [O.list []])[hp.length]? = some (.cell none) := Ext.push _ _ _ _ (new_at hp _)
theorem hA1 (hp : Hp) : (hA hp)[hp.length]? = some (.cell (some (.ref (hp ++ [O.cell none]).length))) := (St.set (hA0 hp)).at_
theorem hAne (hp : Hp) : (hp ++ [O.cell none]).length ≠ hp.length := by rw [List.length_append]; simp
theorem hA2 (hp : Hp) : (hA hp)[(hp ++ [O.cell none]).length]? = some (.list ([].map iv)) := (St.set (hA0 hp)).keep _ _ (hAne hp) (new_at (hp ++ [O.cell none]) (.list []))
theorem hA3 (hp : Hp) : Ext hp (hA hp) := fun i x hx => (St.set (hA0 hp)).keep i x (Nat.ne_of_lt (lt_of_at hx)) (Ext.push _ _ i x (Ext.push hp _ i x hx))
noncomputable def L00 (c : Nat) : Ls := fun y => if y = Str.ofString "halves" then none else List.lookup y [(Str.ofString "cursor", V.ref c)].reverse
theorem L00_c : L00 c (S "cursor") = some (.ref c) := by
  show (if S "cursor" = S "halves" then none else List.lookup (S "cursor") [(S "cursor", V.ref c)]) = _
  rw [if_neg (by rw [S_inj]; decide), look_cons, if_pos rfl]
noncomputable def L352 (c a : Nat) : Ls := bind1 (S "opening") (.int ((a : Int) - 1)) (L00 c)
theorem L352_c : L352 c a (S "cursor") = some (.ref c) := by
  unfold L352
  rw [bind_ne (by decide), L00_c]
theorem start_352 {hp' : Hp} {b : List UInt8} {ls' : Ls} (h : hp[c]? = some (cur d (a : Int) (e : Int)))
    (q : sWhile (tNot (tOf (eMeth (orc n sc (k + 1)) (S "is_done") (eLoc (S "cursor")) []) trV)) (sAll [(sAsg (S "code") (eMeth (orc n sc (k + 1)) (S "take") (eLoc (S "cursor")) [])), (sIf (tCmp2 (cmpV .Eq) (eLoc (S "code")) (eV (.int 62))) (sAll [(sIf (tCmp2 (cmpV .Eq) (e2 (binV .Mod) (e1S (callV (orc n sc (k + 1))) (eV (.bi .len)) [(eCell (some (hp.length)))]) (eV (.int 2))) (eV (.int 1))) (sAll [(sExpr (eMeth (orc n sc (k + 1)) (S "append") (eCell (some (hp.length))) [(eV (.int 0))]))]) (sAll [])), (sRet (e1S (callV (orc n sc (k + 1))) (eV (.bi .bytes)) [(eCompR (e2 (binV .Add) (e2 (binV .Mult) (eV (.int 16)) (e2 idxV (eCell (some (hp.length))) (eLoc (S "place")))) (e2 idxV (eCell (some (hp.length))) (e2 (binV .Add) (eLoc (S "place")) (eV (.int 1))))) (S "place") [(eV (.int 0)), (e1S (callV (orc n sc (k + 1))) (eV (.bi .len)) [(eCell (some (hp.length)))]), (eV (.int 2))])]))]) (sAll [])), (sAsg (S "worth") (e1S (callV (orc n sc (k + 1))) (eV (.fn 311)) [(eLoc (S "code"))])), (sIf (tCmp2 (cmpV .GtE) (eLoc (S "worth")) (eV (.int 0))) (sAll [(sExpr (eMeth (orc n sc (k + 1)) (S "append") (eCell (some (hp.length))) [(eLoc (S "worth"))]))]) (sAll [(sIf (tNot (tOf (e1S (callV (orc n sc (k + 1))) (eV (.fn 70)) [(eLoc (S "code"))]) trV)) (sAll [sNo]) (sAll []))]))]) n (L352 c a) (hA hp) = some (.ret (.bytes b), ls', hp')) :
    orc n sc (k + 2) 352 [.ref c] hp = some (.bytes b, hp') := by
  rw [orc_cell rfl rfl rfl (den_352 _ _ _ hp.length)]
  have hl : List.lookup (Str.ofString "halves") [(Str.ofString "cursor", V.ref c)].reverse = none := by
    rw [List.reverse_singleton, look_cons, if_neg (by
      intro q
      have := ofS_inj q
      revert this; decide)]
    rfl
  rw [hl]
  have h0 : (hp ++ [O.cell none])[c]? = some (cur d (a : Int) (e : Int)) := Ext.push hp _ _ _ h
  unfold body_352
  change fin (sAll _ (L00 c) _) = _
  have hop : e2 (binV .Sub) (e1 (attrV (S "at")) (eLoc (S "cursor"))) (eV (.int 1)) (L00 c) (hp ++ [O.cell none]) = some (.int ((a : Int) - 1), hp ++ [O.cell none]) := by
    rw [a_e2, a_e1, a_eLoc, L00_c]
    dsimp only
    rw [at_at h0]
    rfl
  rw [a_sAsg, hop]
  dsimp only
  rw [a_sAsgC (v := .ref (hp ++ [O.cell none]).length) (by simp only [a_sAll0, a_sExpr, a_sAsg, a_sIf, a_sRet, a_sCont, a_sOne, a_eV, a_eLoc, a_e1, a_e2, a_eAll0, a_eAll1, a_eS, a_e1S, a_eIf, a_eTr, a_eAnd1, a_eAnd2, a_tNot, a_tAnd0, a_tAnd1, a_tOr0, a_tOr1, a_tOf, a_tCmp2, a_tCmp3, a_eMeth, a_eO0, a_eO1, a_eCut, a_callF, a_callB, a_methF, ls1, ls2, ls3, ls4, a_bind, S_inj, String.reduceEq, reduceIte, a_fin1, a_fin2, a_fin3, Bool.not_true, Bool.not_false, a_trB, a_lt, a_le, a_gt, a_ge, a_eq, a_ne, a_add, a_sub, a_neg, a_mod, a_inW, a_niW, a_niD, decide_true, decide_false, nT2, nT3, nL0, nL1, a_eqB, a_eqS, a_neS]) (hA0 hp)]
  rw [show ((hp ++ [O.cell none]) ++ [O.list []]).set hp.length (.cell (some (.ref (hp ++ [O.cell none]).length))) = hA hp from rfl]
  refine (congrArg fin (a_sWhileR _ _ _ _ _ _ _ _ _ q)).trans rfl
theorem fin_352 {hp' : Hp} {o : O} {s : Nat} (hs : s = (hp ++ [O.cell none]).length) {o2 : O} (A : S2 c o s o2 (hA hp) hp') : St c o hp hp' := ⟨A.at1, fun i x hi e => A.keep i x hi (by
  have := lt_of_at e
  rw [hs, List.length_append]
  omega) (hA3 hp i x e)⟩
theorem S2.thenSt {c s : Nat} {o1 o2 p1 : O} {h0 h1 h2 : Hp} (ne : c ≠ s) (A : S2 c o1 s p1 h0 h1) (B : St c o2 h1 h2) : S2 c o2 s p1 h0 h2 := ⟨B.at_, B.keep _ _ (Ne.symm ne) A.at2, fun i x hi hj e => B.keep i x hi (A.keep i x hi hj e)⟩
/-- <4a> -/
theorem sp_352a (h : hp[c]? = some (cur d a e)) (W : Win d a e (52 :: 97 :: 62 :: w)) (hn : 100 ≤ n) : ∃ hp', orc n sc (k + 2) 352 [.ref c] hp = some (.bytes [74], hp') ∧ St c (cur d ((a + 3 : Nat) : Int) e) hp hp' := by
  obtain ⟨n', rfl⟩ : ∃ n', n = n' + 3 := ⟨n - 3, by omega⟩
  have lc := lt_of_at h
  have ne : c ≠ (hp ++ [O.cell none]).length := by rw [List.length_append]; omega
  have ng : c ≠ hp.length := by omega
  have h0 := hA3 hp _ _ h
  have g0 := hA1 hp
  obtain ⟨l1, h1, q1, c1, z1⟩ := half_352 (n := n' + 3) (sc := sc) (k := k) (l := []) (v := 4) (L352_c (a := a)) g0 ne ng (hA3 hp _ _ h) (hA2 hp) (by simp) W (by decide) (fun hp => hx52)
  have g1 := z1.keep _ _ (Ne.symm ng) (Ne.symm (hAne hp)) g0
  obtain ⟨l2, h2, q2, c2, z2⟩ := half_352 (n := n' + 3) (sc := sc) (k := k) (v := 10) c1 g1 ne ng z1.at1 z1.at2 (by simp) W.tail (by decide) (fun hp => hx97)
  have g2 := z2.keep _ _ (Ne.symm ng) (Ne.symm (hAne hp)) g1
  obtain ⟨l3, h3, q3, z3⟩ := last_352 (n := n' + 3) (sc := sc) (k := k) (p := 4) (q := 10) c2 g2 ne ng z2.at1 z2.at2 (by decide) (by decide) W.tail.tail n'
  exact ⟨h3, start_352 h ((q1 _).trans ((q2 _).trans q3)), fin_352 rfl ((z1.trans z2).thenSt ne z3)⟩
/-- <4 1 and a line's end> -/
theorem sp_352b (h : hp[c]? = some (cur d a e)) (W : Win d a e (52 :: 32 :: 49 :: 10 :: 62 :: w)) (hn : 100 ≤ n) : ∃ hp', orc n sc (k + 2) 352 [.ref c] hp = some (.bytes [65], hp') ∧ St c (cur d ((a + 5 : Nat) : Int) e) hp hp' := by
  obtain ⟨n', rfl⟩ : ∃ n', n = n' + 5 := ⟨n - 5, by omega⟩
  have lc := lt_of_at h
  have ne : c ≠ (hp ++ [O.cell none]).length := by rw [List.length_append]; omega
  have ng : c ≠ hp.length := by omega
  have g0 := hA1 hp
  obtain ⟨l1, h1, q1, c1, z1⟩ := half_352 (n := n' + 5) (sc := sc) (k := k) (l := []) (v := 4) (L352_c (a := a)) g0 ne ng (hA3 hp _ _ h) (hA2 hp) (by simp) W (by decide) (fun hp => hx52)
  have g1 := z1.keep _ _ (Ne.symm ng) (Ne.symm (hAne hp)) g0
  obtain ⟨l2, h2, q2, c2, z2⟩ := white_352 (n := n' + 5) (sc := sc) (k := k) (g := hp.length) c1 z1.at1 W.tail (by decide) (by decide) (fun hp => hx32)
  have y2 := z1.thenSt ne z2
  have g2 := z2.keep _ _ (Ne.symm ng) g1
  obtain ⟨l3, h3, q3, c3, z3⟩ := half_352 (n := n' + 5) (sc := sc) (k := k) (v := 1) c2 g2 ne ng y2.at1 y2.at2 (by simp) W.tail.tail (by decide) (fun hp => hx49)
  have g3 := z3.keep _ _ (Ne.symm ng) (Ne.symm (hAne hp)) g2
  obtain ⟨l4, h4, q4, c4, z4⟩ := white_352 (n := n' + 5) (sc := sc) (k := k) (g := hp.length) c3 z3.at1 W.tail.tail.tail (by decide) (by decide) (fun hp => hx10)
  have y4 := (y2.trans z3).thenSt ne z4
  have g4 := z4.keep _ _ (Ne.symm ng) g3
  obtain ⟨l5, h5, q5, z5⟩ := last_352 (n := n' + 5) (sc := sc) (k := k) (p := 4) (q := 1) c4 g4 ne ng y4.at1 y4.at2 (by decide) (by decide) W.tail.tail.tail.tail n'
  exact ⟨h5, start_352 h ((q1 _).trans ((q2 _).trans ((q3 _).trans ((q4 _).trans q5)))), fin_352 rfl (y4.thenSt ne z5)⟩
end
end Mine

open PySem PySem.W PyProof.Rows PySem.Calls
set_option Elab.async false
set_option maxRecDepth 100000
set_option maxHeartbeats 1000000
set_option linter.all false
namespace Mine
/-- a token: its kind and its worth -/
inductive Tk where
  | raw (kind : String) (b : List UInt8)
  | int (i : Int)
  | real (t : Int) (p : Nat)
  | name (l : List Nat)
noncomputable def Tk.kd : Tk → String
  | .raw k _ => k
  | .int _ => "int"
  | .real _ _ => "real"
  | .name _ => "name"
/-- its worth in the heap -/
def WtAt (hp : Hp) (u : V) : Tk → Prop
  | .raw _ b => u = .bytes b
  | .int i => u = .int i
  | .real t p => ∃ j, u = .ref j ∧ hp[j]? = some (dcm t p)
  | .name l => u = .str ⟨l.toArray⟩
/-- the token in the heap -/
def TkAt (hp : Hp) (v : V) (tk : Tk) (p : Nat) : Prop := ∃ i u, v = .ref i ∧ hp[i]? = some (.tuple [.str (S tk.kd), u, .int (p : Int)]) ∧ WtAt hp u tk
noncomputable def runTk (x : UInt8) (ys : List UInt8) : Tk := match rd x ys with
  | .no => .raw "word" (x :: ys)
  | .int i => .int i
  | .real t p => .real t p
theorem TkAt.of {hp : Hp} {u : V} {tk : Tk} {p : Nat} {s : String} (hs : s = tk.kd) (h : WtAt hp u tk) : TkAt (hp ++ [.tuple [.str (S s), u, .int (p : Int)]]) (.ref hp.length) tk p := by
  subst hs
  refine ⟨_, _, rfl, new_at _ _, ?_⟩
  cases tk with
  | real t q => obtain ⟨j, h1, h2⟩ := h; exact ⟨j, h1, Ext.push _ _ _ _ h2⟩
  | _ => exact h
theorem TkAt.keep {hp hp' : Hp} {v : V} {tk : Tk} {p : Nat} (h : TkAt hp v tk p) (k : ∀ (i : Nat) x, hp[i]? = some x → (∃ ys, x = .tuple ys) ∨ (∃ t q, x = dcm t q) → hp'[i]? = some x) : TkAt hp' v tk p := by
  obtain ⟨i, u, h1, h2, h3⟩ := h
  refine ⟨i, u, h1, k _ _ h2 (.inl ⟨_, rfl⟩), ?_⟩
  cases tk with
  | real t q => obtain ⟨j, h4, h5⟩ := h3; exact ⟨j, h4, k _ _ h5 (.inr ⟨_, _, rfl⟩)⟩
  | _ => exact h3
section
variable {n : Nat} {sc : Addr × List Int} {k : Nat} {hp : Hp} {c : Nat} {d w : List UInt8} {a e : Nat}
theorem a_is1 (hp : Hp) : cmpV .Is .none .none hp = some true := rfl
theorem a_is2 (i : Int) (hp : Hp) : cmpV .Is (.int i) .none hp = some false := rfl
theorem a_is3 (i : Nat) (hp : Hp) : cmpV .Is (.ref i) .none hp = some false := rfl
theorem a_isi (i : Int) (hp : Hp) : callB .isinstance [.int i, .bi .int] hp = some (.bool true, hp) := rfl
theorem a_isd {i : Nat} {t : Int} {p : Nat} (h : hp[i]? = some (dcm t p)) : callB .isinstance [.ref i, .bi .int] hp = some (.bool false, hp) := by
  unfold callB isiB dcm at *
  dsimp only
  rw [h]
  rfl
/-- a number or a word -/
theorem sp_359 {x : UInt8} {ys : List UInt8} {p : Nat} (h : hp[c]? = some (cur d a e)) (W : Win d a e ((x :: ys) ++ w)) (hy : (x :: ys).all isR = true) (hl : (x :: ys).length ≤ 60) (hw : HN w) (hn : 1000 ≤ n) :
    ∃ v hp', orc n sc (k + 4) 359 [.ref c, .int (p : Int)] hp = some (v, hp') ∧ St c (cur d ((a + (x :: ys).length : Nat) : Int) e) hp hp' ∧ TkAt hp' v (runTk x ys) p := by
  obtain ⟨h1, q1, z1⟩ := sp_149 (n := n) (sc := sc) (k := k + 1) h W hy hw (by omega)
  obtain ⟨v, h2, q2, r2⟩ := sp_303 (n := n) (sc := sc) (k := k) (x := x) (ys := ys) (hp := h1) hl (by omega)
  rw [orc_def rfl rfl rfl (den_359 ..)]
  unfold runTk
  revert r2
  generalize rd x ys = r
  cases r with
  | no =>
    rintro ⟨rfl, rfl⟩
    refine ⟨_, _, ?_, z1.trans (St.push z1.at_ _), TkAt.of (s := "word") rfl rfl⟩
    simp only [body_359, a_sIf, a_sAll0, a_sExpr, a_sAsg, a_sIf, a_sRet, a_sCont, a_sOne, a_eV, a_eLoc, a_e1, a_e2, a_eAll0, a_eAll1, a_eS, a_e1S, a_eIf, a_eTr, a_eAnd1, a_eAnd2, a_tNot, a_tAnd0, a_tAnd1, a_tOr0, a_tOr1, a_tOf, a_tCmp2, a_tCmp3, a_eMeth, a_eO0, a_eO1, a_eCut, a_callF, a_callB, a_methF, ls1, ls2, ls3, ls4, a_bind, S_inj, String.reduceEq, reduceIte, a_fin1, a_fin2, a_fin3, Bool.not_true, Bool.not_false, a_trB, a_lt, a_le, a_gt, a_ge, a_eq, a_ne, a_add, a_sub, a_neg, a_mod, a_inW, a_niW, a_niD, decide_true, decide_false, nT2, nT3, nL0, nL1, a_eqB, a_eqS, a_neS, me_reg h, q1, q2, a_is1, a_then1]
  | int i =>
    rintro ⟨rfl, rfl⟩
    refine ⟨_, _, ?_, z1.trans (St.push z1.at_ _), TkAt.of (s := "int") rfl rfl⟩
    simp only [body_359, a_sIf, a_sAll0, a_sExpr, a_sAsg, a_sIf, a_sRet, a_sCont, a_sOne, a_eV, a_eLoc, a_e1, a_e2, a_eAll0, a_eAll1, a_eS, a_e1S, a_eIf, a_eTr, a_eAnd1, a_eAnd2, a_tNot, a_tAnd0, a_tAnd1, a_tOr0, a_tOr1, a_tOf, a_tCmp2, a_tCmp3, a_eMeth, a_eO0, a_eO1, a_eCut, a_callF, a_callB, a_methF, ls1, ls2, ls3, ls4, a_bind, S_inj, String.reduceEq, reduceIte, a_fin1, a_fin2, a_fin3, Bool.not_true, Bool.not_false, a_trB, a_lt, a_le, a_gt, a_ge, a_eq, a_ne, a_add, a_sub, a_neg, a_mod, a_inW, a_niW, a_niD, decide_true, decide_false, nT2, nT3, nL0, nL1, a_eqB, a_eqS, a_neS, me_reg h, q1, q2, a_is2, a_isi, a_then0, a_then1]
  | real t q =>
    rintro ⟨rfl, rfl⟩
    have z2 := z1.trans (St.push z1.at_ [dcm t q])
    refine ⟨_, _, ?_, z2.trans (St.push z2.at_ _), TkAt.of (s := "real") (u := .ref h1.length) rfl ⟨_, rfl, new_at _ _⟩⟩
    simp only [body_359, a_sIf, a_sAll0, a_sExpr, a_sAsg, a_sIf, a_sRet, a_sCont, a_sOne, a_eV, a_eLoc, a_e1, a_e2, a_eAll0, a_eAll1, a_eS, a_e1S, a_eIf, a_eTr, a_eAnd1, a_eAnd2, a_tNot, a_tAnd0, a_tAnd1, a_tOr0, a_tOr1, a_tOf, a_tCmp2, a_tCmp3, a_eMeth, a_eO0, a_eO1, a_eCut, a_callF, a_callB, a_methF, ls1, ls2, ls3, ls4, a_bind, S_inj, String.reduceEq, reduceIte, a_fin1, a_fin2, a_fin3, Bool.not_true, Bool.not_false, a_trB, a_lt, a_le, a_gt, a_ge, a_eq, a_ne, a_add, a_sub, a_neg, a_mod, a_inW, a_niW, a_niD, decide_true, decide_false, nT2, nT3, nL0, nL1, a_eqB, a_eqS, a_neS, me_reg h, q1, q2, a_is3, a_isd (new_at h1 (dcm t q)), a_then0]
theorem a_inG' (x : UInt8) (hp : Hp) : cmpV .In (.int (x.toNat : Int)) (.seq 304) hp = some (gl.contains (x.toNat : Int)) := rfl
/-- a name -/
theorem sp_366n {y : List UInt8} {l : List Nat} {p : Nat} (h : hp[c]? = some (cur d a e)) (W : Win d a e (47 :: (y ++ w))) (hy : y.all isR = true) (hl : y.length ≤ 100) (hw : HN w) (hn : 1000 ≤ n)
    (N : ∀ hp, ∃ hp', orc n sc (k + 4) 326 [.bytes y, .int (p : Int)] hp = some (.str ⟨l.toArray⟩, hp') ∧ Ext hp hp') :
    ∃ v hp', orc n sc (k + 5) 366 [.ref c, .int 47, .int (p : Int)] hp = some (v, hp') ∧ St c (cur d ((a + (47 :: y).length : Nat) : Int) e) hp hp' ∧ TkAt hp' v (.name l) p := by
  have st := (St.set (o' := cur d ((a + 1 : Nat) : Int) e) h)
  obtain ⟨h1, q1, z1⟩ := sp_149 (n := n) (sc := sc) (k := k + 2) st.at_ W.tail hy hw (by omega)
  obtain ⟨h2, q2, z2⟩ := N h1
  have z3 := (st.trans z1).trans (St.ext z1.at_ z2)
  rw [show a + 1 + y.length = a + (47 :: y).length by rw [List.length_cons]; omega] at z3
  refine ⟨_, _, ?_, z3.trans (St.push z3.at_ _), TkAt.of (s := "name") rfl rfl⟩
  rw [orc_def rfl rfl rfl (den_366 ..)]
  simp only [body_366, a_sIf, a_sAll0, a_sExpr, a_sAsg, a_sIf, a_sRet, a_sCont, a_sOne, a_eV, a_eLoc, a_e1, a_e2, a_eAll0, a_eAll1, a_eS, a_e1S, a_eIf, a_eTr, a_eAnd1, a_eAnd2, a_tNot, a_tAnd0, a_tAnd1, a_tOr0, a_tOr1, a_tOf, a_tCmp2, a_tCmp3, a_eMeth, a_eO0, a_eO1, a_eCut, a_callF, a_callB, a_methF, ls1, ls2, ls3, ls4, a_bind, S_inj, String.reduceEq, reduceIte, a_fin1, a_fin2, a_fin3, Bool.not_true, Bool.not_false, a_trB, a_lt, a_le, a_gt, a_ge, a_eq, a_ne, a_add, a_sub, a_neg, a_mod, a_inW, a_niW, a_niD, decide_true, decide_false, nT2, nT3, nL0, nL1, a_eqB, a_eqS, a_neS, me_take h, sp_121 h W, me_reg st.at_, q1, q2, a_then1]
/-- a string -/
theorem sp_366s {y b : List UInt8} {p m : Nat} (h : hp[c]? = some (cur d a e)) (W : Win d a e (40 :: y))
    (N : ∀ hp, hp[c]? = some (cur d ((a + 1 : Nat) : Int) e) → ∃ hp', orc n sc (k + 4) 347 [.ref c] hp = some (.bytes b, hp') ∧ St c (cur d ((a + 1 + m : Nat) : Int) e) hp hp') :
    ∃ v hp', orc n sc (k + 5) 366 [.ref c, .int 40, .int (p : Int)] hp = some (v, hp') ∧ St c (cur d ((a + 1 + m : Nat) : Int) e) hp hp' ∧ TkAt hp' v (.raw "string" b) p := by
  have st := (St.set (o' := cur d ((a + 1 : Nat) : Int) e) h)
  obtain ⟨h1, q1, z1⟩ := N _ st.at_
  have z3 := st.trans z1
  refine ⟨_, _, ?_, z3.trans (St.push z3.at_ _), TkAt.of (s := "string") rfl rfl⟩
  rw [orc_def rfl rfl rfl (den_366 ..)]
  simp only [body_366, a_sIf, a_sAll0, a_sExpr, a_sAsg, a_sIf, a_sRet, a_sCont, a_sOne, a_eV, a_eLoc, a_e1, a_e2, a_eAll0, a_eAll1, a_eS, a_e1S, a_eIf, a_eTr, a_eAnd1, a_eAnd2, a_tNot, a_tAnd0, a_tAnd1, a_tOr0, a_tOr1, a_tOf, a_tCmp2, a_tCmp3, a_eMeth, a_eO0, a_eO1, a_eCut, a_callF, a_callB, a_methF, ls1, ls2, ls3, ls4, a_bind, S_inj, String.reduceEq, reduceIte, a_fin1, a_fin2, a_fin3, Bool.not_true, Bool.not_false, a_trB, a_lt, a_le, a_gt, a_ge, a_eq, a_ne, a_add, a_sub, a_neg, a_mod, a_inW, a_niW, a_niD, decide_true, decide_false, nT2, nT3, nL0, nL1, a_eqB, a_eqS, a_neS, me_take h, sp_121 h W, q1, Int.reduceEq, a_then0, a_then1]
/-- a hex string -/
theorem sp_366h {y b : List UInt8} {p m : Nat} (h : hp[c]? = some (cur d a e)) (W : Win d a e (60 :: y)) (q : (60 :: y).take 2 ≠ [60, 60])
    (N : ∀ hp, hp[c]? = some (cur d ((a + 1 : Nat) : Int) e) → ∃ hp', orc n sc (k + 4) 352 [.ref c] hp = some (.bytes b, hp') ∧ St c (cur d ((a + 1 + m : Nat) : Int) e) hp hp') :
    ∃ v hp', orc n sc (k + 5) 366 [.ref c, .int 60, .int (p : Int)] hp = some (v, hp') ∧ St c (cur d ((a + 1 + m : Nat) : Int) e) hp hp' ∧ TkAt hp' v (.raw "hex" b) p := by
  have st := (St.set (o' := cur d ((a + 1 : Nat) : Int) e) h)
  obtain ⟨h1, q1, z1⟩ := N _ st.at_
  have z3 := st.trans z1
  refine ⟨_, _, ?_, z3.trans (St.push z3.at_ _), TkAt.of (s := "hex") rfl rfl⟩
  rw [orc_def rfl rfl rfl (den_366 ..)]
  have q2 : (60 :: y).take 2 ≠ [62, 62] := by rw [List.take_succ_cons]; intro g; injection g with g1; revert g1; decide
  simp only [body_366, a_sIf, a_sAll0, a_sExpr, a_sAsg, a_sIf, a_sRet, a_sCont, a_sOne, a_eV, a_eLoc, a_e1, a_e2, a_eAll0, a_eAll1, a_eS, a_e1S, a_eIf, a_eTr, a_eAnd1, a_eAnd2, a_tNot, a_tAnd0, a_tAnd1, a_tOr0, a_tOr1, a_tOf, a_tCmp2, a_tCmp3, a_eMeth, a_eO0, a_eO1, a_eCut, a_callF, a_callB, a_methF, ls1, ls2, ls3, ls4, a_bind, S_inj, String.reduceEq, reduceIte, a_fin1, a_fin2, a_fin3, Bool.not_true, Bool.not_false, a_trB, a_lt, a_le, a_gt, a_ge, a_eq, a_ne, a_add, a_sub, a_neg, a_mod, a_inW, a_niW, a_niD, decide_true, decide_false, nT2, nT3, nL0, nL1, a_eqB, a_eqS, a_neS, me_skip h, sp_135f h W q, sp_135f h W q2, me_take h, sp_121 h W, q1, Int.reduceEq, a_then0, a_then1]
/-- << -/
theorem sp_366l {p : Nat} (h : hp[c]? = some (cur d a e)) (W : Win d a e (60 :: 60 :: w)) :
    ∃ v hp', orc n sc (k + 5) 366 [.ref c, .int 60, .int (p : Int)] hp = some (v, hp') ∧ St c (cur d ((a + 2 : Nat) : Int) e) hp hp' ∧ TkAt hp' v (.raw "sign" [60, 60]) p := by
  have st := (St.set (o' := cur d ((a + 2 : Nat) : Int) e) h)
  refine ⟨_, _, ?_, st.trans (St.push st.at_ _), TkAt.of (s := "sign") rfl rfl⟩
  rw [orc_def rfl rfl rfl (den_366 ..)]
  simp only [body_366, a_sIf, a_sAll0, a_sExpr, a_sAsg, a_sIf, a_sRet, a_sCont, a_sOne, a_eV, a_eLoc, a_e1, a_e2, a_eAll0, a_eAll1, a_eS, a_e1S, a_eIf, a_eTr, a_eAnd1, a_eAnd2, a_tNot, a_tAnd0, a_tAnd1, a_tOr0, a_tOr1, a_tOf, a_tCmp2, a_tCmp3, a_eMeth, a_eO0, a_eO1, a_eCut, a_callF, a_callB, a_methF, ls1, ls2, ls3, ls4, a_bind, S_inj, String.reduceEq, reduceIte, a_fin1, a_fin2, a_fin3, Bool.not_true, Bool.not_false, a_trB, a_lt, a_le, a_gt, a_ge, a_eq, a_ne, a_add, a_sub, a_neg, a_mod, a_inW, a_niW, a_niD, decide_true, decide_false, nT2, nT3, nL0, nL1, a_eqB, a_eqS, a_neS, me_skip h, sp_135t h W, Int.reduceEq, a_then0, a_then1]
/-- >> -/
theorem sp_366g {p : Nat} (h : hp[c]? = some (cur d a e)) (W : Win d a e (62 :: 62 :: w)) :
    ∃ v hp', orc n sc (k + 5) 366 [.ref c, .int 62, .int (p : Int)] hp = some (v, hp') ∧ St c (cur d ((a + 2 : Nat) : Int) e) hp hp' ∧ TkAt hp' v (.raw "sign" [62, 62]) p := by
  have st := (St.set (o' := cur d ((a + 2 : Nat) : Int) e) h)
  refine ⟨_, _, ?_, st.trans (St.push st.at_ _), TkAt.of (s := "sign") rfl rfl⟩
  rw [orc_def rfl rfl rfl (den_366 ..)]
  have q : (62 :: 62 :: w).take 2 ≠ [60, 60] := by rw [List.take_succ_cons]; intro g; injection g with g1; revert g1; decide
  simp only [body_366, a_sIf, a_sAll0, a_sExpr, a_sAsg, a_sIf, a_sRet, a_sCont, a_sOne, a_eV, a_eLoc, a_e1, a_e2, a_eAll0, a_eAll1, a_eS, a_e1S, a_eIf, a_eTr, a_eAnd1, a_eAnd2, a_tNot, a_tAnd0, a_tAnd1, a_tOr0, a_tOr1, a_tOf, a_tCmp2, a_tCmp3, a_eMeth, a_eO0, a_eO1, a_eCut, a_callF, a_callB, a_methF, ls1, ls2, ls3, ls4, a_bind, S_inj, String.reduceEq, reduceIte, a_fin1, a_fin2, a_fin3, Bool.not_true, Bool.not_false, a_trB, a_lt, a_le, a_gt, a_ge, a_eq, a_ne, a_add, a_sub, a_neg, a_mod, a_inW, a_niW, a_niD, decide_true, decide_false, nT2, nT3, nL0, nL1, a_eqB, a_eqS, a_neS, me_skip h, sp_135f h W q, sp_135t h W, Int.reduceEq, a_then0, a_then1]
/-- one of the four brackets -/
noncomputable def isG (x : UInt8) : Bool := gl.contains (x.toNat : Int)
theorem sp_366b {x : UInt8} {p : Nat} (h : hp[c]? = some (cur d a e)) (W : Win d a e (x :: w)) (hx : isG x = true) :
    ∃ v hp', orc n sc (k + 5) 366 [.ref c, .int (x.toNat : Int), .int (p : Int)] hp = some (v, hp') ∧ St c (cur d ((a + 1 : Nat) : Int) e) hp hp' ∧ TkAt hp' v (.raw "sign" [x]) p := by
  have st := (St.set (o' := cur d ((a + 1 : Nat) : Int) e) h)
  have zz := st.trans (St.push st.at_ [O.list [V.int (x.toNat : Int)]])
  refine ⟨_, _, ?_, zz.trans (St.push zz.at_ _), TkAt.of (s := "sign") rfl rfl⟩
  rw [orc_def rfl rfl rfl (den_366 ..)]
  have ne : ∀ y : UInt8, isG y = false → x ≠ y := fun y hy q => by rw [q] at hx; rw [hx] at hy; cases hy
  have q1 : (x :: w).take 2 ≠ [60, 60] := by rw [List.take_succ_cons]; intro g; injection g with g1; exact ne 60 (by decide) g1
  have q2 : (x :: w).take 2 ≠ [62, 62] := by rw [List.take_succ_cons]; intro g; injection g with g1; exact ne 62 (by decide) g1
  have e1 : ¬ ((x.toNat : Int) = 47) := fun q => ne 47 (by decide) (UInt8.toNat_inj.mp (by show x.toNat = 47; omega))
  have e2 : ¬ ((x.toNat : Int) = 40) := fun q => ne 40 (by decide) (UInt8.toNat_inj.mp (by show x.toNat = 40; omega))
  have e3 : ¬ ((x.toNat : Int) = 60) := fun q => ne 60 (by decide) (UInt8.toNat_inj.mp (by show x.toNat = 60; omega))
  have hg : gl.contains (x.toNat : Int) = true := hx
  have cb : ∀ h1 : Hp, callB .bytes [.ref h1.length] (h1 ++ [O.list [V.int (x.toNat : Int)]]) = some (.bytes [x], h1 ++ [O.list [V.int (x.toNat : Int)]]) := fun h1 => by
    unfold callB bytB
    dsimp only
    rw [new_at]
    dsimp only
    have ub := x.toNat_lt
    have ho : octets [V.int (x.toNat : Int)] = some [(x.toNat : Int).toNat.toUInt8] := by
      show (if 0 ≤ (x.toNat : Int) ∧ (x.toNat : Int) < 256 then (octets []).map ((x.toNat : Int).toNat.toUInt8 :: ·) else none) = _
      rw [if_pos (by omega)]
      rfl
    have hx8 : (x.toNat : Int).toNat.toUInt8 = x := by rw [Int.toNat_natCast]; exact UInt8.ofNat_toNat
    rw [ho, hx8, if_pos (by simp)]
    rfl
  simp only [body_366, a_sIf, a_sAll0, a_sExpr, a_sAsg, a_sIf, a_sRet, a_sCont, a_sOne, a_eV, a_eLoc, a_e1, a_e2, a_eAll0, a_eAll1, a_eS, a_e1S, a_eIf, a_eTr, a_eAnd1, a_eAnd2, a_tNot, a_tAnd0, a_tAnd1, a_tOr0, a_tOr1, a_tOf, a_tCmp2, a_tCmp3, a_eMeth, a_eO0, a_eO1, a_eCut, a_callF, a_callB, a_methF, ls1, ls2, ls3, ls4, a_bind, S_inj, String.reduceEq, reduceIte, a_fin1, a_fin2, a_fin3, Bool.not_true, Bool.not_false, a_trB, a_lt, a_le, a_gt, a_ge, a_eq, a_ne, a_add, a_sub, a_neg, a_mod, a_inW, a_niW, a_niD, decide_true, decide_false, nT2, nT3, nL0, nL1, a_eqB, a_eqS, a_neS, me_skip h, sp_135f h W q1, sp_135f h W q2, me_take h, sp_121 h W, e1, e2, e3, a_inG', hg, cb, a_then0, a_then1]
end
end Mine

open PySem PySem.W PyProof.Rows PySem.Calls
set_option Elab.async false
set_option maxRecDepth 100000
set_option maxHeartbeats 1000000
set_option linter.all false
namespace Mine
section
variable {n : Nat} {sc : Addr × List Int} {k : Nat} {hp : Hp} {c : Nat} {d b w : List UInt8} {a e : Nat}
theorem tor_373 {L : Ls} {hp : Hp} {xi : Int} (h : L (S "code") = some (.int xi)) : tOr [(tCmp2 (cmpV .Eq) (eLoc (S "code")) (eV (.int 47))), (tCmp2 (cmpV .Eq) (eLoc (S "code")) (eV (.int 40))), (tCmp2 (cmpV .Eq) (eLoc (S "code")) (eV (.int 41))), (tCmp2 (cmpV .Eq) (eLoc (S "code")) (eV (.int 60))), (tCmp2 (cmpV .Eq) (eLoc (S "code")) (eV (.int 62))), (tCmp2 (cmpV .In) (eLoc (S "code")) (eV (.seq 304)))] L hp = some (decide (xi = 47) || (decide (xi = 40) || (decide (xi = 41) || (decide (xi = 60) || (decide (xi = 62) || gl.contains xi)))), hp) := by
  simp only [a_tOr1, a_tOr0, a_tCmp2, a_eLoc, a_eV, h, a_eq, a_inG]
  generalize decide (xi = 47) = b1
  generalize decide (xi = 40) = b2
  generalize decide (xi = 41) = b3
  generalize decide (xi = 60) = b4
  generalize decide (xi = 62) = b5
  generalize gl.contains xi = b6
  cases b1
  · cases b2
    · cases b3
      · cases b4
        · cases b5
          · cases b6 <;> rfl
          · rfl
        · rfl
      · rfl
    · rfl
  · rfl
theorem sp_373d {x : UInt8} {tk : Tk} {a' : Nat} (B : Wh b) (h : hp[c]? = some (cur d a e)) (W : Win d a e (b ++ (x :: w))) (hx : isW x = false ∧ x ≠ 37) (hn : b.length < n)
    (D : (x.toNat : Int) = 47 ∨ (x.toNat : Int) = 40 ∨ (x.toNat : Int) = 60 ∨ (x.toNat : Int) = 62 ∨ isG x = true)
    (N : ∀ hp, hp[c]? = some (cur d ((a + b.length : Nat) : Int) e) → ∃ v hp', orc n sc (k + 5) 366 [.ref c, .int (x.toNat : Int), .int ((a + b.length : Nat) : Int)] hp = some (v, hp') ∧ St c (cur d (a' : Int) e) hp hp' ∧ TkAt hp' v tk (a + b.length)) :
    ∃ v hp', orc n sc (k + 6) 373 [.ref c] hp = some (v, hp') ∧ St c (cur d (a' : Int) e) hp hp' ∧ TkAt hp' v tk (a + b.length) := by
  obtain ⟨h1, q1, z1⟩ := sp_142 (n := n) (sc := sc) (k := k + 4) B hn (fun y w' q => by injection q with q1 q2; subst q1; exact hx) W h
  obtain ⟨v, h2, q2, z2, t2⟩ := N h1 z1.at_
  refine ⟨v, h2, ?_, z1.trans z2, t2⟩
  rw [orc_def rfl rfl rfl (den_373 ..)]
  have pk := sp_114 (n := n) (sc := sc) (k := k + 4) z1.at_ W.next
  have D' : (decide ((x.toNat : Int) = 47) || (decide ((x.toNat : Int) = 40) || (decide ((x.toNat : Int) = 41) || (decide ((x.toNat : Int) = 60) || (decide ((x.toNat : Int) = 62) || gl.contains (x.toNat : Int)))))) = true := by
    rcases D with D | D | D | D | D
    · rw [D]; rfl
    · rw [D]; rfl
    · rw [D]; rfl
    · rw [D]; rfl
    · rw [show gl.contains (x.toNat : Int) = true from D]; simp only [Bool.or_true]
  have n1 : ¬ (x.toNat : Int) = -1 := by omega
  clear D N
  generalize (x.toNat : Int) = xi at pk q2 D' n1
  have tt := fun (L : Ls) (h : L (S "code") = some (.int xi)) => (tor_373 (hp := h1) h).trans (by rw [D'])
  unfold body_373
  simp only [a_sExpr, a_sAsg, a_eMeth, a_eLoc, a_eAll0, ls1, reduceIte, me_white h, a_methF, q1, a_e1, at_at z1.at_, a_bind, S_inj, String.reduceEq, me_peek z1.at_, pk]
  rw [a_sIf, a_tCmp2, a_eLoc]
  simp only [a_bind, reduceIte, a_e1, a_eV, a_neg, a_eq, n1, decide_false, a_sAll0, a_then0]
  rw [a_sIf, tt _ (if_pos rfl)]
  simp only [a_sAll0, a_sExpr, a_sAsg, a_sIf, a_sRet, a_sCont, a_sOne, a_eV, a_eLoc, a_e1, a_e2, a_eAll0, a_eAll1, a_eS, a_e1S, a_eIf, a_eTr, a_eAnd1, a_eAnd2, a_tNot, a_tAnd0, a_tAnd1, a_tOr0, a_tOr1, a_tOf, a_tCmp2, a_tCmp3, a_eMeth, a_eO0, a_eO1, a_eCut, a_callF, a_callB, a_methF, ls1, ls2, ls3, ls4, a_bind, S_inj, String.reduceEq, reduceIte, a_fin1, a_fin2, a_fin3, Bool.not_true, Bool.not_false, a_trB, a_lt, a_le, a_gt, a_ge, a_eq, a_ne, a_add, a_sub, a_neg, a_mod, a_inW, a_niW, a_niD, decide_true, decide_false, nT2, nT3, nL0, nL1, a_eqB, a_eqS, a_neS, q2, a_then1]
theorem sp_373r {x : UInt8} {ys : List UInt8} (B : Wh b) (h : hp[c]? = some (cur d a e)) (W : Win d a e (b ++ ((x :: ys) ++ w))) (hy : (x :: ys).all isR = true) (hl : (x :: ys).length ≤ 60) (hw : HN w) (hb : b.length < n) (hn : 1000 ≤ n) :
    ∃ v hp', orc n sc (k + 6) 373 [.ref c] hp = some (v, hp') ∧ St c (cur d ((a + b.length + (x :: ys).length : Nat) : Int) e) hp hp' ∧ TkAt hp' v (runTk x ys) (a + b.length) := by
  have hx : isR x = true := by rw [List.all_cons, Bool.and_eq_true] at hy; exact hy.1
  have ne : ∀ y : UInt8, isR y = false → ¬ (x.toNat : Int) = (y.toNat : Int) := fun y hy q => by
    have : x = y := UInt8.toNat_inj.mp (by omega)
    rw [this] at hx; rw [hx] at hy; cases hy
  have hx2 : isW x = false ∧ x ≠ 37 := by
    refine ⟨?_, fun q => by rw [q] at hx; revert hx; decide⟩
    unfold isR at hx
    cases hq : isW x
    · rfl
    · rw [hq] at hx; cases hx
  obtain ⟨h1, q1, z1⟩ := sp_142 (n := n) (sc := sc) (k := k + 4) B hb (fun y w' q => by injection q with q1 q2; subst q1; exact hx2) W h
  obtain ⟨v, h2, q2, z2, t2⟩ := sp_359 (n := n) (sc := sc) (k := k + 1) (p := a + b.length) z1.at_ W.next hy hl hw hn
  refine ⟨v, h2, ?_, z1.trans z2, t2⟩
  rw [orc_def rfl rfl rfl (den_373 ..)]
  have pk := sp_114 (n := n) (sc := sc) (k := k + 4) z1.at_ W.next
  have n1 : ¬ (x.toNat : Int) = -1 := by omega
  have g1 : ¬ (x.toNat : Int) = 47 := ne 47 (by decide)
  have g2 : ¬ (x.toNat : Int) = 40 := ne 40 (by decide)
  have g3 : ¬ (x.toNat : Int) = 41 := ne 41 (by decide)
  have g4 : ¬ (x.toNat : Int) = 60 := ne 60 (by decide)
  have g5 : ¬ (x.toNat : Int) = 62 := ne 62 (by decide)
  have g0 : gl.contains (x.toNat : Int) = false := by
    cases hq : gl.contains (x.toNat : Int)
    · rfl
    · have hm := List.contains_iff_mem.mp hq
      unfold gl at hm
      simp only [List.mem_cons, List.not_mem_nil, or_false] at hm
      rcases hm with hm | hm | hm | hm
      · exact absurd hm (ne 91 (by decide))
      · exact absurd hm (ne 93 (by decide))
      · exact absurd hm (ne 123 (by decide))
      · exact absurd hm (ne 125 (by decide))
  have tt := fun (L : Ls) (h : L (S "code") = some (.int (x.toNat : Int))) => (tor_373 (hp := h1) h).trans (by rw [g0, decide_eq_false g1, decide_eq_false g2, decide_eq_false g3, decide_eq_false g4, decide_eq_false g5]; rfl : _ = some (false, h1))
  clear g0 g1 g2 g3 g4 g5 ne
  unfold body_373
  simp only [a_sExpr, a_sAsg, a_eMeth, a_eLoc, a_eAll0, ls1, reduceIte, me_white h, a_methF, q1, a_e1, at_at z1.at_, a_bind, S_inj, String.reduceEq, me_peek z1.at_, pk]
  rw [a_sIf, a_tCmp2, a_eLoc]
  simp only [a_bind, reduceIte, a_e1, a_eV, a_neg, a_eq, n1, decide_false, a_sAll0, a_then0]
  rw [a_sIf, tt _ (if_pos rfl)]
  simp only [a_sAll0, a_sExpr, a_sAsg, a_sIf, a_sRet, a_sCont, a_sOne, a_eV, a_eLoc, a_e1, a_e2, a_eAll0, a_eAll1, a_eS, a_e1S, a_eIf, a_eTr, a_eAnd1, a_eAnd2, a_tNot, a_tAnd0, a_tAnd1, a_tOr0, a_tOr1, a_tOf, a_tCmp2, a_tCmp3, a_eMeth, a_eO0, a_eO1, a_eCut, a_callF, a_callB, a_methF, ls1, ls2, ls3, ls4, a_bind, S_inj, String.reduceEq, reduceIte, a_fin1, a_fin2, a_fin3, Bool.not_true, Bool.not_false, a_trB, a_lt, a_le, a_gt, a_ge, a_eq, a_ne, a_add, a_sub, a_neg, a_mod, a_inW, a_niW, a_niD, decide_true, decide_false, nT2, nT3, nL0, nL1, a_eqB, a_eqS, a_neS, q2, a_then0]
theorem sp_373e (B : Wh b) (h : hp[c]? = some (cur d a e)) (W : Win d a e b) (hb : b.length < n) :
    ∃ v hp', orc n sc (k + 6) 373 [.ref c] hp = some (v, hp') ∧ St c (cur d ((a + b.length : Nat) : Int) e) hp hp' ∧ TkAt hp' v (.raw "end" []) (a + b.length) := by
  have W' : Win d a e (b ++ []) := by rw [List.append_nil]; exact W
  obtain ⟨h1, q1, z1⟩ := sp_142 (n := n) (sc := sc) (k := k + 4) B hb (fun y w' q => by cases q) W' h
  refine ⟨_, _, ?_, z1.trans (St.push z1.at_ _), TkAt.of (s := "end") rfl rfl⟩
  rw [orc_def rfl rfl rfl (den_373 ..)]
  have pk := sp_114n (n := n) (sc := sc) (k := k + 4) z1.at_ W'.next
  simp only [body_373, a_sIf, a_sAll0, a_sExpr, a_sAsg, a_sIf, a_sRet, a_sCont, a_sOne, a_eV, a_eLoc, a_e1, a_e2, a_eAll0, a_eAll1, a_eS, a_e1S, a_eIf, a_eTr, a_eAnd1, a_eAnd2, a_tNot, a_tAnd0, a_tAnd1, a_tOr0, a_tOr1, a_tOf, a_tCmp2, a_tCmp3, a_eMeth, a_eO0, a_eO1, a_eCut, a_callF, a_callB, a_methF, ls1, ls2, ls3, ls4, a_bind, S_inj, String.reduceEq, reduceIte, a_fin1, a_fin2, a_fin3, Bool.not_true, Bool.not_false, a_trB, a_lt, a_le, a_gt, a_ge, a_eq, a_ne, a_add, a_sub, a_neg, a_mod, a_inW, a_niW, a_niD, decide_true, decide_false, nT2, nT3, nL0, nL1, a_eqB, a_eqS, a_neS, me_white h, q1, at_at z1.at_, me_peek z1.at_, pk, a_then0, a_then1, Int.reduceEq, Int.reduceNeg]
end
end Mine

open PySem PySem.W PyProof.Rows PySem.Calls
set_option Elab.async false
set_option maxRecDepth 100000
set_option maxHeartbeats 1000000
set_option linter.all false
namespace Mine
noncomputable def isP (x : UInt8) : Bool := isR x && x != 35
/-- the bytes t are the token tk, where w follows -/
inductive Tok : List UInt8 → Tk → List UInt8 → Prop
  | run (x : UInt8) (ys w : List UInt8) : (x :: ys).all isR = true → (x :: ys).length ≤ 60 → HN w → Tok (x :: ys) (runTk x ys) w
  | name (y w : List UInt8) : y.all isP = true → y.length ≤ 90 → HN w → Tok (47 :: y) (.name (y.map UInt8.toNat)) w
  | nameh (r w : List UInt8) : r.all isP = true → r.length ≤ 90 → HN w → Tok (47 :: 65 :: 35 :: 52 :: 50 :: r) (.name (65 :: 66 :: r.map UInt8.toNat)) w
  | strA (w : List UInt8) : Tok [40, 97, 40, 98, 41, 92, 41, 41] (.raw "string" [97, 40, 98, 41, 41]) w
  | strB (w : List UInt8) : Tok [40, 92, 49, 48, 49, 92, 10, 41] (.raw "string" [65]) w
  | hexA (w : List UInt8) : Tok [60, 52, 97, 62] (.raw "hex" [74]) w
  | hexB (w : List UInt8) : Tok [60, 52, 32, 49, 10, 62] (.raw "hex" [65]) w
  | ll (w : List UInt8) : Tok [60, 60] (.raw "sign" [60, 60]) w
  | gg (w : List UInt8) : Tok [62, 62] (.raw "sign" [62, 62]) w
  | sg (x : UInt8) (w : List UInt8) : isG x = true → Tok [x] (.raw "sign" [x]) w
theorem Tok.rest {t w w' : List UInt8} {tk : Tk} (h : Tok t tk w) (k : HN w → HN w') : Tok t tk w' := by
  cases h with
  | run x ys _ h1 h2 h3 => exact .run x ys w' h1 h2 (k h3)
  | name y _ h1 h2 h3 => exact .name y w' h1 h2 (k h3)
  | nameh r _ h1 h2 h3 => exact .nameh r w' h1 h2 (k h3)
  | strA => exact .strA _
  | strB => exact .strB _
  | hexA => exact .hexA _
  | hexB => exact .hexB _
  | ll => exact .ll _
  | gg => exact .gg _
  | sg x _ h => exact .sg x _ h
theorem Tok.pos {t w : List UInt8} {tk : Tk} (h : Tok t tk w) : 1 ≤ t.length := by
  cases h <;> (simp only [List.length_cons]; omega)
theorem Tok.kd {t w : List UInt8} {tk : Tk} (h : Tok t tk w) : tk.kd ≠ "end" := by
  cases h with
  | run x ys _ h1 h2 h3 =>
    unfold runTk
    cases rd x ys with
    | no => exact (by decide : ("word" : String) ≠ "end")
    | int i => exact (by decide : ("int" : String) ≠ "end")
    | real t p => exact (by decide : ("real" : String) ≠ "end")
  | name => exact (by decide : ("name" : String) ≠ "end")
  | nameh => exact (by decide : ("name" : String) ≠ "end")
  | strA => exact (by decide : ("string" : String) ≠ "end")
  | strB => exact (by decide : ("string" : String) ≠ "end")
  | hexA => exact (by decide : ("hex" : String) ≠ "end")
  | hexB => exact (by decide : ("hex" : String) ≠ "end")
  | ll => exact (by decide : ("sign" : String) ≠ "end")
  | gg => exact (by decide : ("sign" : String) ≠ "end")
  | sg => exact (by decide : ("sign" : String) ≠ "end")
/-- the tokens of w, which stands at a -/
inductive Toks : Nat → List UInt8 → List (Tk × Nat) → Prop
  | nil (a : Nat) (b : List UInt8) : Wh b → Toks a b []
  | cons (a : Nat) (b t w : List UInt8) (tk : Tk) (T : List (Tk × Nat)) : Wh b → Tok t tk w → Toks (a + b.length + t.length) w T → Toks a (b ++ (t ++ w)) ((tk, a + b.length) :: T)
theorem Toks.len {a : Nat} {w : List UInt8} {T : List (Tk × Nat)} (h : Toks a w T) : T.length ≤ w.length := by
  induction h with
  | nil a b _ => exact Nat.zero_le _
  | cons a b t w tk T _ h1 _ ih =>
    have := h1.pos
    simp only [List.length_cons, List.length_append]
    omega
theorem all_mono {p q : UInt8 → Bool} {l : List UInt8} (h : l.all p = true) (k : ∀ x, p x = true → q x = true) : l.all q = true := by
  rw [List.all_eq_true] at h ⊢
  exact fun x hx => k x (h x hx)
theorem isP_R (x : UInt8) (h : isP x = true) : isR x = true := by
  unfold isP at h
  rw [Bool.and_eq_true] at h
  exact h.1
theorem isP_n (x : UInt8) (h : isP x = true) : (x != 35 && x != 0) = true := by
  unfold isP at h
  rw [Bool.and_eq_true] at h ⊢
  refine ⟨h.2, bne_iff_ne.mpr fun q => ?_⟩
  rw [q] at h
  exact absurd h.1 (by decide)
section
variable {n : Nat} {sc : Addr × List Int} {k : Nat} {hp : Hp} {c : Nat} {d b w : List UInt8} {a e : Nat}
theorem sp_373 {t : List UInt8} {tk : Tk} (K : Tok t tk w) (B : Wh b) (h : hp[c]? = some (cur d a e)) (W : Win d a e (b ++ (t ++ w))) (hb : b.length < n) (hn : 1000 ≤ n) :
    ∃ v hp', orc n sc (k + 6) 373 [.ref c] hp = some (v, hp') ∧ St c (cur d ((a + b.length + t.length : Nat) : Int) e) hp hp' ∧ TkAt hp' v tk (a + b.length) := by
  cases K with
  | run x ys _ h1 h2 h3 => exact sp_373r B h W h1 h2 h3 hb hn
  | name y _ h1 h2 h3 =>
    exact sp_373d (x := 47) B h W (by decide) hb (.inl rfl) fun hp h => sp_366n h W.next (all_mono h1 isP_R) (by omega) h3 hn fun hp => sp_326 (k := k + 2) (all_mono h1 isP_n) (by omega) hn
  | nameh r _ h1 h2 h3 =>
    refine sp_373d (x := 47) B h W (by decide) hb (.inl rfl) fun hp h => sp_366n (y := 65 :: 35 :: 52 :: 50 :: r) h W.next ?_ ?_ h3 hn fun hp => sp_326h (k := k + 2) (all_mono h1 isP_n) (by omega) hn
    · rw [List.all_cons, List.all_cons, List.all_cons, List.all_cons, all_mono h1 isP_R]; decide
    · simp only [List.length_cons]; omega
  | strA =>
    exact sp_373d (x := 40) B h W (by decide) hb (.inr (.inl rfl)) fun hp h => sp_366s (m := 7) h W.next fun hp h => sp_347a h W.next.tail (by omega)
  | strB =>
    exact sp_373d (x := 40) B h W (by decide) hb (.inr (.inl rfl)) fun hp h => sp_366s (m := 7) h W.next fun hp h => sp_347b h W.next.tail (by omega)
  | hexA =>
    exact sp_373d (x := 60) B h W (by decide) hb (.inr (.inr (.inl rfl))) fun hp h => sp_366h (m := 3) h W.next (by show ([60, 52] : List UInt8) ≠ [60, 60]; decide) fun hp h => sp_352a (k := k + 2) h W.next.tail (by omega)
  | hexB =>
    exact sp_373d (x := 60) B h W (by decide) hb (.inr (.inr (.inl rfl))) fun hp h => sp_366h (m := 5) h W.next (by show ([60, 52] : List UInt8) ≠ [60, 60]; decide) fun hp h => sp_352b (k := k + 2) h W.next.tail (by omega)
  | ll =>
    exact sp_373d (x := 60) B h W (by decide) hb (.inr (.inr (.inl rfl))) fun hp h => sp_366l h W.next
  | gg =>
    exact sp_373d (x := 62) B h W (by decide) hb (.inr (.inr (.inr (.inl rfl)))) fun hp h => sp_366g h W.next
  | sg x _ hx =>
    refine sp_373d (x := x) B h W ?_ hb (.inr (.inr (.inr (.inr hx)))) fun hp h => sp_366b h W.next hx
    have hm := List.contains_iff_mem.mp hx
    unfold gl at hm
    simp only [List.mem_cons, List.not_mem_nil, or_false] at hm
    have e1 : ∀ y : UInt8, (x.toNat : Int) = (y.toNat : Int) → x = y := fun y q => UInt8.toNat_inj.mp (by omega)
    rcases hm with hm | hm | hm | hm
    · rw [e1 91 hm]; decide
    · rw [e1 93 hm]; decide
    · rw [e1 123 hm]; decide
    · rw [e1 125 hm]; decide
/-- the tokens in the heap -/
def TkAts (hp : Hp) : List V → List (Tk × Nat) → Prop
  | [], [] => True
  | v :: vs, q :: T => TkAt hp v q.1 q.2 ∧ TkAts hp vs T
  | _, _ => False
theorem cur_tk {x : O} (h : (∃ ys, x = .tuple ys) ∨ (∃ t q, x = dcm t q)) : x ≠ cur d (a : Int) (e : Int) := by
  rintro rfl
  unfold cur dcm at h
  rcases h with ⟨ys, h⟩ | ⟨t, q, h⟩
  · cases h
  · have := (O.inst.inj h).1
    revert this; decide
theorem St.tk {o : O} {hp' : Hp} {v : V} {tk : Tk} {p : Nat} (Z : St c o hp hp') (h : hp[c]? = some (cur d a e)) (t : TkAt hp v tk p) : TkAt hp' v tk p := t.keep fun i x hx hq => Z.keep i x (fun g => by
  subst g
  rw [h] at hx
  exact cur_tk hq (Option.some.inj hx).symm) hx
theorem lst_tk {x : O} {xs : List V} (h : (∃ ys, x = .tuple ys) ∨ (∃ t q, x = dcm t q)) : x ≠ .list xs := by
  rintro rfl
  unfold dcm at h
  rcases h with ⟨ys, h⟩ | ⟨t, q, h⟩ <;> cases h
theorem St.tkl {o : O} {hp' : Hp} {v : V} {tk : Tk} {p : Nat} {xs : List V} {l : Nat} (Z : St l o hp hp') (h : hp[l]? = some (.list xs)) (t : TkAt hp v tk p) : TkAt hp' v tk p := t.keep fun i x hx hq => Z.keep i x (fun g => by
  subst g
  rw [h] at hx
  exact lst_tk hq (Option.some.inj hx).symm) hx
theorem S2.tk {o : O} {hp' : Hp} {v : V} {tk : Tk} {p f : Nat} {o2 : O} {xs : List V} (Z : S2 c o f o2 hp hp') (h : hp[c]? = some (cur d a e)) (h2 : hp[f]? = some (.list xs)) (t : TkAt hp v tk p) : TkAt hp' v tk p := t.keep fun i x hx hq => Z.keep i x (fun g => by
  subst g
  rw [h] at hx
  exact cur_tk hq (Option.some.inj hx).symm) (fun g => by
  subst g
  rw [h2] at hx
  exact lst_tk hq (Option.some.inj hx).symm) hx
theorem test_380 {ls : Ls} {v : V} {tk : Tk} {p : Nat} (h : TkAt hp v tk p) (hv : ls (S "token") = some v) :
    tCmp2 (cmpV .NotEq) (e2 idxV (eLoc (S "token")) (eV (.int 0))) (eV (.str (S "end"))) ls hp = some (S tk.kd != S "end", hp) := by
  obtain ⟨i, u, rfl, h2, h3⟩ := h
  have i0 : idxV (.ref i) (.int 0) hp = some (.str (S tk.kd), hp) := a_idxT (i := 0) h2 rfl (by omega)
  simp only [a_tCmp2, a_e2, a_eLoc, a_eV, hv, i0, a_neS]
theorem loop_380 {f : Nat} (hn : 1000 ≤ n) (ne : c ≠ f) {w : List UInt8} {T : List (Tk × Nat)} (K : Toks a w T) : ∀ (m : Nat) (vs : List V) (v : V) (tk : Tk) (p : Nat) (ls : Ls) (hp : Hp),
    T.length + 2 ≤ m → w.length < n → vs.length + T.length ≤ 20000 → tk.kd ≠ "end" → TkAt hp v tk p → hp[c]? = some (cur d a e) → hp[f]? = some (.list vs) → Win d a e w → ls (S "cursor") = some (.ref c) → ls (S "found") = some (.ref f) → ls (S "token") = some v →
    ∃ ls' hp' us a', sWhile (tCmp2 (cmpV .NotEq) (e2 idxV (eLoc (S "token")) (eV (.int 0))) (eV (.str (S "end")))) (sAll [(sExpr (eMeth (orc n sc (k + 6)) (S "append") (eLoc (S "found")) [(eLoc (S "token"))])), (sAsg (S "token") (e1S (callV (orc n sc (k + 6))) (eV (.fn 373)) [(eLoc (S "cursor"))]))]) m ls hp = some (.next, ls', hp') ∧ ls' (S "found") = some (.ref f) ∧ S2 c (cur d (a' : Nat) e) f (.list (vs ++ us)) hp hp' ∧ TkAts hp' us ((tk, p) :: T) := by
  have body : ∀ (vs : List V) (v v' : V) (ls : Ls) (hp h2 : Hp) (o : O), vs.length ≤ 20000 → hp[f]? = some (.list vs) → ls (S "cursor") = some (.ref c) → ls (S "found") = some (.ref f) → ls (S "token") = some v →
      orc n sc (k + 6) 373 [.ref c] (hp.set f (.list (vs ++ [v]))) = some (v', h2) → (sAll [(sExpr (eMeth (orc n sc (k + 6)) (S "append") (eLoc (S "found")) [(eLoc (S "token"))])), (sAsg (S "token") (e1S (callV (orc n sc (k + 6))) (eV (.fn 373)) [(eLoc (S "cursor"))]))]) ls hp = some (.next, bind1 (S "token") v' ls, h2) := fun vs v v' ls hp h2 o hl hf l1 l2 l3 q => by
    rw [sExpr_append (v := v) (by rw [a_eLoc, l2]) hf (by rw [a_eLoc, l3]) hf (by omega)]
    simp only [a_sAsg, a_e1S, a_eV, a_eAll0, a_eAll1, a_eLoc, l1, a_callF, q, a_sAll0]
  have tt : ∀ (ls : Ls) (hp : Hp) (v : V) (tk : Tk) (p : Nat), TkAt hp v tk p → ls (S "token") = some v → tk.kd ≠ "end" → tCmp2 (cmpV .NotEq) (e2 idxV (eLoc (S "token")) (eV (.int 0))) (eV (.str (S "end"))) ls hp = some (true, hp) := fun ls hp v tk p h1 h2 h3 => by
    rw [test_380 h1 h2, bne_iff_ne.mpr fun q => h3 (ofS_inj q)]
  induction K with
  | nil a b B =>
    intro m vs v tk p ls hp hm hw hl hk ht h hf W l1 l2 l3
    obtain ⟨m, rfl⟩ : ∃ m', m = m' + 2 := ⟨m - 2, by simp at hm; omega⟩
    have s1 := St.set (o' := .list (vs ++ [v])) hf
    have hc := s1.keep _ _ ne h
    obtain ⟨v', h2, q, z, t2⟩ := sp_373e (n := n) (sc := sc) (k := k) B hc W hw
    refine ⟨_, h2, [v], _, (w_step (tt _ _ _ _ _ ht l3 hk) (body vs v v' ls hp h2 (.list []) (by simp at hl; omega) hf l1 l2 l3 q)).trans (w_stop ?_), ?_, ⟨z.at_, z.keep _ _ (Ne.symm ne) s1.at_, fun i x hi hj g => z.keep i x hi (s1.keep i x hj g)⟩, z.tk hc (s1.tkl hf ht), trivial⟩
    · rw [test_380 t2 (by simp only [a_bind, reduceIte])]
      rfl
    · rw [bind_ne (by decide)]; exact l2
  | cons a b t w tk1 T B K1 K ih =>
    intro m vs v tk p ls hp hm hw hl hk ht h hf W l1 l2 l3
    rw [List.length_cons] at hm hl
    obtain ⟨m, rfl⟩ : ∃ m', m = m' + 1 := ⟨m - 1, by omega⟩
    have s1 := St.set (o' := .list (vs ++ [v])) hf
    have hc := s1.keep _ _ ne h
    simp only [List.length_append] at hw
    obtain ⟨v', h2, q, z, t2⟩ := sp_373 (n := n) (sc := sc) (k := k) K1 B hc W (by omega) hn
    have z2 : S2 c _ f (.list (vs ++ [v])) hp h2 := ⟨z.at_, z.keep _ _ (Ne.symm ne) s1.at_, fun i x hi hj g => z.keep i x hi (s1.keep i x hj g)⟩
    have W2 := W.next.next
    obtain ⟨ls', hp', us, a', x1, x2, x3, x4⟩ := ih m (vs ++ [v]) v' tk1 (a + b.length) (bind1 (S "token") v' ls) h2 (by omega) (by omega) (by rw [List.length_append, List.length_cons, List.length_nil]; omega) K1.kd t2 z.at_ z2.at2 W2 (by rw [bind_ne (by decide)]; exact l1) (by rw [bind_ne (by decide)]; exact l2) (by simp only [a_bind, reduceIte])
    refine ⟨ls', hp', v :: us, a', (w_step (tt _ _ _ _ _ ht l3 hk) (body vs v v' ls hp h2 (.list []) (by omega) hf l1 l2 l3 q)).trans x1, x2, ?_, x3.tk z.at_ z2.at2 (z.tk hc (s1.tkl hf ht)), x4⟩
    rw [show vs ++ v :: us = (vs ++ [v]) ++ us by rw [List.append_assoc]; rfl]
    exact z2.trans x3
/-- all tokens -/
theorem sp_380 {w : List UInt8} {T : List (Tk × Nat)} (K : Toks a w T) (h : hp[c]? = some (cur d a e)) (W : Win d a e w) (hn : 20000 ≤ n) :
    ∃ l hp' vs a', orc n sc (k + 7) 380 [.ref c] hp = some (.ref l, hp') ∧ hp'[l]? = some (.list vs) ∧ TkAts hp' vs T ∧ St c (cur d (a' : Nat) e) hp hp' ∧ hp.length ≤ l := by
  have hl := K.len
  have wl := W.len
  have w2 := W.le
  have w3 := W.lim
  have h0 := (St.push h [O.list []]).at_
  have ne : c ≠ hp.length := Nat.ne_of_lt (lt_of_at h)
  rw [orc_def rfl rfl rfl (den_380 ..)]
  cases K with
  | nil _ _ B =>
    obtain ⟨v', h2, q, z, t2⟩ := sp_373e (n := n) (sc := sc) (k := k) B h0 W (by omega)
    have z0 : St c _ hp h2 := (St.push h [O.list []]).trans z
    refine ⟨hp.length, h2, [], _, ?_, z.keep _ _ (Ne.symm ne) (new_at hp _), trivial, z0, Nat.le_refl _⟩
    obtain ⟨n', rfl⟩ : ∃ n', n = n' + 1 := ⟨n - 1, by omega⟩
    simp only [body_380, a_sAsg, a_eS, a_eAll0, nL0, a_e1S, a_eV, a_eAll1, a_eLoc, a_bind, ls1, S_inj, String.reduceEq, reduceIte, a_callF, q]
    rw [a_sWhile _ _ _ _ _ _ _ _ (w_stop (by rw [test_380 t2 (by simp only [a_bind, reduceIte])]; rfl))]
    simp only [a_sAll0, a_sExpr, a_sAsg, a_sIf, a_sRet, a_sCont, a_sOne, a_eV, a_eLoc, a_e1, a_e2, a_eAll0, a_eAll1, a_eS, a_e1S, a_eIf, a_eTr, a_eAnd1, a_eAnd2, a_tNot, a_tAnd0, a_tAnd1, a_tOr0, a_tOr1, a_tOf, a_tCmp2, a_tCmp3, a_eMeth, a_eO0, a_eO1, a_eCut, a_callF, a_callB, a_methF, ls1, ls2, ls3, ls4, a_bind, S_inj, String.reduceEq, reduceIte, a_fin1, a_fin2, a_fin3, Bool.not_true, Bool.not_false, a_trB, a_lt, a_le, a_gt, a_ge, a_eq, a_ne, a_add, a_sub, a_neg, a_mod, a_inW, a_niW, a_niD, decide_true, decide_false, nT2, nT3, nL0, nL1, a_eqB, a_eqS, a_neS]
  | cons _ b t w tk1 T B K1 K =>
    simp only [List.length_append, List.length_cons] at hl wl
    obtain ⟨v', h2, q, z, t2⟩ := sp_373 (n := n) (sc := sc) (k := k) K1 B h0 W (by omega) (by omega)
    have z0 : St c _ hp h2 := (St.push h [O.list []]).trans z
    obtain ⟨ls', hp', us, a', x1, x2, x3, x4⟩ := loop_380 (n := n) (sc := sc) (k := k) (by omega) ne K n [] v' tk1 (a + b.length) (bind1 (S "token") v' (bind1 (S "found") (.ref hp.length) (lsOf [(Str.ofString "cursor", .ref c)]))) h2 (by omega) (by omega) (by rw [List.length_nil]; omega) K1.kd t2 z.at_ (z.keep _ _ (Ne.symm ne) (new_at hp _)) W.next.next (by simp only [a_sAll0, a_sExpr, a_sAsg, a_sIf, a_sRet, a_sCont, a_sOne, a_eV, a_eLoc, a_e1, a_e2, a_eAll0, a_eAll1, a_eS, a_e1S, a_eIf, a_eTr, a_eAnd1, a_eAnd2, a_tNot, a_tAnd0, a_tAnd1, a_tOr0, a_tOr1, a_tOf, a_tCmp2, a_tCmp3, a_eMeth, a_eO0, a_eO1, a_eCut, a_callF, a_callB, a_methF, ls1, ls2, ls3, ls4, a_bind, S_inj, String.reduceEq, reduceIte, a_fin1, a_fin2, a_fin3, Bool.not_true, Bool.not_false, a_trB, a_lt, a_le, a_gt, a_ge, a_eq, a_ne, a_add, a_sub, a_neg, a_mod, a_inW, a_niW, a_niD, decide_true, decide_false, nT2, nT3, nL0, nL1, a_eqB, a_eqS, a_neS]) (by simp only [a_sAll0, a_sExpr, a_sAsg, a_sIf, a_sRet, a_sCont, a_sOne, a_eV, a_eLoc, a_e1, a_e2, a_eAll0, a_eAll1, a_eS, a_e1S, a_eIf, a_eTr, a_eAnd1, a_eAnd2, a_tNot, a_tAnd0, a_tAnd1, a_tOr0, a_tOr1, a_tOf, a_tCmp2, a_tCmp3, a_eMeth, a_eO0, a_eO1, a_eCut, a_callF, a_callB, a_methF, ls1, ls2, ls3, ls4, a_bind, S_inj, String.reduceEq, reduceIte, a_fin1, a_fin2, a_fin3, Bool.not_true, Bool.not_false, a_trB, a_lt, a_le, a_gt, a_ge, a_eq, a_ne, a_add, a_sub, a_neg, a_mod, a_inW, a_niW, a_niD, decide_true, decide_false, nT2, nT3, nL0, nL1, a_eqB, a_eqS, a_neS]) (by simp only [a_sAll0, a_sExpr, a_sAsg, a_sIf, a_sRet, a_sCont, a_sOne, a_eV, a_eLoc, a_e1, a_e2, a_eAll0, a_eAll1, a_eS, a_e1S, a_eIf, a_eTr, a_eAnd1, a_eAnd2, a_tNot, a_tAnd0, a_tAnd1, a_tOr0, a_tOr1, a_tOf, a_tCmp2, a_tCmp3, a_eMeth, a_eO0, a_eO1, a_eCut, a_callF, a_callB, a_methF, ls1, ls2, ls3, ls4, a_bind, S_inj, String.reduceEq, reduceIte, a_fin1, a_fin2, a_fin3, Bool.not_true, Bool.not_false, a_trB, a_lt, a_le, a_gt, a_ge, a_eq, a_ne, a_add, a_sub, a_neg, a_mod, a_inW, a_niW, a_niD, decide_true, decide_false, nT2, nT3, nL0, nL1, a_eqB, a_eqS, a_neS])
    rw [List.nil_append] at x3
    refine ⟨hp.length, hp', us, a', ?_, x3.at2, x4, ⟨x3.at1, fun i x hi g => x3.keep i x hi (Nat.ne_of_lt (lt_of_at g)) (z0.keep i x hi g)⟩, Nat.le_refl _⟩
    simp only [body_380, a_sAsg, a_eS, a_eAll0, nL0, a_e1S, a_eV, a_eAll1, a_eLoc, a_bind, ls1, S_inj, String.reduceEq, reduceIte, a_callF, q]
    rw [a_sWhile _ _ _ _ _ _ _ _ x1]
    simp only [a_sAll0, a_sExpr, a_sAsg, a_sIf, a_sRet, a_sCont, a_sOne, a_eV, a_eLoc, a_e1, a_e2, a_eAll0, a_eAll1, a_eS, a_e1S, a_eIf, a_eTr, a_eAnd1, a_eAnd2, a_tNot, a_tAnd0, a_tAnd1, a_tOr0, a_tOr1, a_tOf, a_tCmp2, a_tCmp3, a_eMeth, a_eO0, a_eO1, a_eCut, a_callF, a_callB, a_methF, ls1, ls2, ls3, ls4, a_bind, S_inj, String.reduceEq, reduceIte, a_fin1, a_fin2, a_fin3, Bool.not_true, Bool.not_false, a_trB, a_lt, a_le, a_gt, a_ge, a_eq, a_ne, a_add, a_sub, a_neg, a_mod, a_inW, a_niW, a_niD, decide_true, decide_false, nT2, nT3, nL0, nL1, a_eqB, a_eqS, a_neS, x2]
end
end Mine

open PySem PySem.W PyProof.Rows PySem.Calls
set_option Elab.async false
set_option maxRecDepth 100000
set_option maxHeartbeats 1000000
set_option linter.all false
namespace Mine
/-- a token's worth, told -/
def WdAt (hp : Hp) (u : V) : Tk → Prop
  | .raw _ b => u = .bytes b
  | .int i => u = .int i
  | .real t p => ∃ j, u = .ref j ∧ hp[j]? = some (.tuple [.int t, .int (p : Int)])
  | .name l => u = .str ⟨l.toArray⟩
def TdAt (hp : Hp) (v : V) (tk : Tk) (p : Int) : Prop := ∃ i u, v = .ref i ∧ hp[i]? = some (.tuple [.str (S tk.kd), u, .int p]) ∧ WdAt hp u tk
def TdAts (hp : Hp) : List V → List (Tk × Int) → Prop
  | [], [] => True
  | v :: vs, q :: T => TdAt hp v q.1 q.2 ∧ TdAts hp vs T
  | _, _ => False
/-- a list of told tokens -/
def TL (hp : Hp) (f : Nat) (D : List (Tk × Int)) : Prop := ∃ us, hp[f]? = some (.list us) ∧ TdAts hp us D
noncomputable def mv (m : Int) (T : List (Tk × Nat)) : List (Tk × Int) := T.map fun q => (q.1, (q.2 : Int) + m)
def Tk.ok (t : Tk) : Prop := t.kd = "real" → ∃ i p, t = .real i p
theorem Tok.ok {t w : List UInt8} {tk : Tk} (h : Tok t tk w) : tk.ok := by
  intro q
  cases h with
  | run x ys _ h1 h2 h3 =>
    unfold runTk at q ⊢
    revert q
    cases rd x ys with
    | no => exact fun q => absurd q (by decide : ("word" : String) ≠ "real")
    | int i => exact fun q => absurd q (by decide : ("int" : String) ≠ "real")
    | real t p => exact fun _ => ⟨_, _, rfl⟩
  | name => exact absurd q (by decide : ("name" : String) ≠ "real")
  | nameh => exact absurd q (by decide : ("name" : String) ≠ "real")
  | strA => exact absurd q (by decide : ("string" : String) ≠ "real")
  | strB => exact absurd q (by decide : ("string" : String) ≠ "real")
  | hexA => exact absurd q (by decide : ("hex" : String) ≠ "real")
  | hexB => exact absurd q (by decide : ("hex" : String) ≠ "real")
  | ll => exact absurd q (by decide : ("sign" : String) ≠ "real")
  | gg => exact absurd q (by decide : ("sign" : String) ≠ "real")
  | sg => exact absurd q (by decide : ("sign" : String) ≠ "real")
theorem Toks.ok {a : Nat} {w : List UInt8} {T : List (Tk × Nat)} (h : Toks a w T) : ∀ q ∈ T, q.1.ok := by
  induction h with
  | nil => exact fun q h => by cases h
  | cons a b t w tk T _ h1 _ ih =>
    intro q h
    rcases List.mem_cons.mp h with rfl | h
    · exact h1.ok
    · exact ih q h
theorem TdAt.keep {hp hp' : Hp} {v : V} {tk : Tk} {p : Int} (h : TdAt hp v tk p) (k : ∀ (i : Nat) ys, hp[i]? = some (.tuple ys) → hp'[i]? = some (.tuple ys)) : TdAt hp' v tk p := by
  obtain ⟨i, u, h1, h2, h3⟩ := h
  refine ⟨i, u, h1, k _ _ h2, ?_⟩
  cases tk with
  | real t q => obtain ⟨j, h4, h5⟩ := h3; exact ⟨j, h4, k _ _ h5⟩
  | _ => exact h3
theorem TdAts.keep {hp hp' : Hp} (k : ∀ (i : Nat) ys, hp[i]? = some (.tuple ys) → hp'[i]? = some (.tuple ys)) : ∀ {vs : List V} {T : List (Tk × Int)}, TdAts hp vs T → TdAts hp' vs T
  | [], [], _ => trivial
  | _ :: _, _ :: _, ⟨h1, h2⟩ => ⟨h1.keep k, TdAts.keep k h2⟩
  | [], _ :: _, h => h.elim
  | _ :: _, [], h => h.elim
theorem TdAts.len {hp : Hp} : ∀ {vs : List V} {T : List (Tk × Int)}, TdAts hp vs T → vs.length = T.length
  | [], [], _ => rfl
  | _ :: _, _ :: _, ⟨_, h2⟩ => by rw [List.length_cons, List.length_cons, TdAts.len h2]
  | [], _ :: _, h => h.elim
  | _ :: _, [], h => h.elim
theorem TkAts.keep {hp hp' : Hp} (k : ∀ (i : Nat) x, hp[i]? = some x → (∃ ys, x = .tuple ys) ∨ (∃ t q, x = dcm t q) → hp'[i]? = some x) : ∀ {vs : List V} {T : List (Tk × Nat)}, TkAts hp vs T → TkAts hp' vs T
  | [], [], _ => trivial
  | _ :: _, _ :: _, ⟨h1, h2⟩ => ⟨h1.keep k, TkAts.keep k h2⟩
  | [], _ :: _, h => h.elim
  | _ :: _, [], h => h.elim
theorem TkAts.len {hp : Hp} : ∀ {vs : List V} {T : List (Tk × Nat)}, TkAts hp vs T → vs.length = T.length
  | [], [], _ => rfl
  | _ :: _, _ :: _, ⟨_, h2⟩ => by rw [List.length_cons, List.length_cons, TkAts.len h2]
  | [], _ :: _, h => h.elim
  | _ :: _, [], h => h.elim
theorem tt_step {chk : Hp → Prop} {bd : V → Ls → Hp → Option Ls} {b : Ex} {v : V} {vs : List V} {ls l1 l2 : Ls} {hp h2 : Hp} (hk : chk hp) (h : bd v ls hp = some l1) (g : b l1 hp = some (.next, l2, h2)) : sTurns chk bd b (v :: vs) ls hp = sTurns chk bd b vs l2 h2 := by
  rw [sTurns]
  dsimp only
  rw [if_pos hk, h]
  dsimp only
  rw [g]
theorem tt_nil {chk : Hp → Prop} {bd : V → Ls → Hp → Option Ls} {b : Ex} {ls : Ls} {hp : Hp} (hk : chk hp) : sTurns chk bd b [] ls hp = some (.next, ls, hp) := by
  rw [sTurns]
  dsimp only
  rw [if_pos hk]
theorem a_sForT {x y z : Str} {e : Ev} {b : Ex} {ls : Ls} {hp h1 : Hp} {i : Nat} {xs : List V} (h : e ls hp = some (.ref i, h1)) (hx : h1[i]? = some (.list xs)) (hl : xs.length ≤ 1000000) (es : List Ex) : sAll (sForT x y z e b :: es) ls hp = andThen es (sTurns (fun hp => hp[i]? = some (.list xs)) (bdThree x y z) b xs ls h1) := by
  show (match sForT x y z e b ls hp with | some (.next, l1, h1) => sAll es l1 h1 | r => r) = _
  unfold sForT
  rw [h]
  dsimp only
  rw [hx]
  dsimp only
  rw [if_pos hl]
  generalize sTurns (fun hp => hp[i]? = some (.list xs)) (bdThree x y z) b xs ls h1 = r
  rcases r with _ | ⟨f, x, y⟩
  · rfl
  · cases f <;> rfl
section
variable {n : Nat} {sc : Addr × List Int} {k : Nat} {hp : Hp} {c : Nat} {d b w : List UInt8} {a e : Nat}
/-- one token told -/
theorem tell_407 {ls : Ls} {tk : Tk} {u : V} {p m : Int} (ok : tk.ok) (hu : WtAt hp u tk) (h1 : ls (S "kind") = some (.str (S tk.kd))) (h2 : ls (S "worth") = some u) (h3 : ls (S "at") = some (.int p)) (h4 : ls (S "moved") = some (.int m)) :
    ∃ v t, (eS (newO .tuple) [(eLoc (S "kind")), (eIf (tCmp2 (cmpV .Eq) (eLoc (S "kind")) (eV (.str (S "real")))) (eMeth (orc n sc (k + 1)) (S "told") (eLoc (S "worth")) []) (eLoc (S "worth"))), (e2 (binV .Add) (eLoc (S "at")) (eLoc (S "moved")))]) ls hp = some (v, hp ++ t) ∧ TdAt (hp ++ t) v tk (p + m) := by
  by_cases q : tk.kd = "real"
  · obtain ⟨t, z, rfl⟩ := ok q
    obtain ⟨j, rfl, hj⟩ := hu
    refine ⟨.ref (hp ++ [O.tuple [.int t, .int (z : Int)]]).length, [O.tuple [.int t, .int (z : Int)]] ++ [O.tuple [.str (S "real"), .ref hp.length, .int (p + m)]], ?_, ?_⟩
    · have hk : (S (Tk.real t z).kd == S "real") = true := beq_iff_eq.mpr rfl
      simp only [a_sAll0, a_sExpr, a_sAsg, a_sIf, a_sRet, a_sCont, a_sOne, a_eV, a_eLoc, a_e1, a_e2, a_eAll0, a_eAll1, a_eS, a_e1S, a_eIf, a_eTr, a_eAnd1, a_eAnd2, a_tNot, a_tAnd0, a_tAnd1, a_tOr0, a_tOr1, a_tOf, a_tCmp2, a_tCmp3, a_eMeth, a_eO0, a_eO1, a_eCut, a_callF, a_callB, a_methF, ls1, ls2, ls3, ls4, a_bind, S_inj, String.reduceEq, reduceIte, a_fin1, a_fin2, a_fin3, Bool.not_true, Bool.not_false, a_trB, a_lt, a_le, a_gt, a_ge, a_eq, a_ne, a_add, a_sub, a_neg, a_mod, a_inW, a_niW, a_niD, decide_true, decide_false, nT2, nT3, nL0, nL1, a_eqB, a_eqS, a_neS, h1, h2, h3, h4, hk, me_told hj, sp_268 hj, List.append_assoc]
      rfl
    · rw [← List.append_assoc]
      exact ⟨_, _, rfl, new_at _ _, _, rfl, Ext.push _ _ _ _ (new_at _ _)⟩
  · refine ⟨.ref hp.length, [O.tuple [.str (S tk.kd), u, .int (p + m)]], ?_, ?_⟩
    · have hk : (S tk.kd == S "real") = false := beq_eq_false_iff_ne.mpr fun z => q (ofS_inj z)
      simp only [a_sAll0, a_sExpr, a_sAsg, a_sIf, a_sRet, a_sCont, a_sOne, a_eV, a_eLoc, a_e1, a_e2, a_eAll0, a_eAll1, a_eS, a_e1S, a_eIf, a_eTr, a_eAnd1, a_eAnd2, a_tNot, a_tAnd0, a_tAnd1, a_tOr0, a_tOr1, a_tOf, a_tCmp2, a_tCmp3, a_eMeth, a_eO0, a_eO1, a_eCut, a_callF, a_callB, a_methF, ls1, ls2, ls3, ls4, a_bind, S_inj, String.reduceEq, reduceIte, a_fin1, a_fin2, a_fin3, Bool.not_true, Bool.not_false, a_trB, a_lt, a_le, a_gt, a_ge, a_eq, a_ne, a_add, a_sub, a_neg, a_mod, a_inW, a_niW, a_niD, decide_true, decide_false, nT2, nT3, nL0, nL1, a_eqB, a_eqS, a_neS, h1, h2, h3, h4, hk]
    · refine ⟨_, _, rfl, new_at _ _, ?_⟩
      cases tk with
      | real t z => exact absurd rfl q
      | _ => exact hu
theorem loop_407 {l f : Nat} {xs : List V} {m : Int} (ne : l ≠ f) : ∀ (vs : List V) (T : List (Tk × Nat)) (us : List V) (ls : Ls) (hp : Hp), TkAts hp vs T → (∀ q ∈ T, q.1.ok) → hp[l]? = some (.list xs) → hp[f]? = some (.list us) → us.length + vs.length ≤ 100000 → ls (S "found") = some (.ref f) → ls (S "moved") = some (.int m) →
    ∃ ls' hp' us', sTurns (fun hp => hp[l]? = some (.list xs)) (bdThree (S "kind") (S "worth") (S "at")) (sAll [(sExpr (eMeth (orc n sc (k + 1)) (S "append") (eLoc (S "found")) [(eS (newO .tuple) [(eLoc (S "kind")), (eIf (tCmp2 (cmpV .Eq) (eLoc (S "kind")) (eV (.str (S "real")))) (eMeth (orc n sc (k + 1)) (S "told") (eLoc (S "worth")) []) (eLoc (S "worth"))), (e2 (binV .Add) (eLoc (S "at")) (eLoc (S "moved")))])]))]) vs ls hp = some (.next, ls', hp') ∧ ls' (S "found") = some (.ref f) ∧ St f (.list (us ++ us')) hp hp' ∧ TdAts hp' us' (mv m T)
  | [], [], us, ls, hp, _, _, hl, hf, _, h1, h2 => ⟨ls, hp, [], tt_nil hl, h1, by rw [List.append_nil]; exact St.refl hf, trivial⟩
  | v :: vs, (tk, p) :: T, us, ls, hp, ⟨t1, t2⟩, ok, hl, hf, hb, h1, h2 => by
    rw [List.length_cons] at hb
    obtain ⟨i, u, rfl, hi, hu⟩ := t1
    obtain ⟨v', t, q, td⟩ := tell_407 (n := n) (sc := sc) (k := k) (ls := bind1 (S "at") (.int (p : Int)) (bind1 (S "worth") u (bind1 (S "kind") (.str (S tk.kd)) ls))) (tk := tk) (u := u) (p := (p : Int)) (m := m) (ok _ List.mem_cons_self) hu (by simp only [a_sAll0, a_sExpr, a_sAsg, a_sIf, a_sRet, a_sCont, a_sOne, a_eV, a_eLoc, a_e1, a_e2, a_eAll0, a_eAll1, a_eS, a_e1S, a_eIf, a_eTr, a_eAnd1, a_eAnd2, a_tNot, a_tAnd0, a_tAnd1, a_tOr0, a_tOr1, a_tOf, a_tCmp2, a_tCmp3, a_eMeth, a_eO0, a_eO1, a_eCut, a_callF, a_callB, a_methF, ls1, ls2, ls3, ls4, a_bind, S_inj, String.reduceEq, reduceIte, a_fin1, a_fin2, a_fin3, Bool.not_true, Bool.not_false, a_trB, a_lt, a_le, a_gt, a_ge, a_eq, a_ne, a_add, a_sub, a_neg, a_mod, a_inW, a_niW, a_niD, decide_true, decide_false, nT2, nT3, nL0, nL1, a_eqB, a_eqS, a_neS]) (by simp only [a_sAll0, a_sExpr, a_sAsg, a_sIf, a_sRet, a_sCont, a_sOne, a_eV, a_eLoc, a_e1, a_e2, a_eAll0, a_eAll1, a_eS, a_e1S, a_eIf, a_eTr, a_eAnd1, a_eAnd2, a_tNot, a_tAnd0, a_tAnd1, a_tOr0, a_tOr1, a_tOf, a_tCmp2, a_tCmp3, a_eMeth, a_eO0, a_eO1, a_eCut, a_callF, a_callB, a_methF, ls1, ls2, ls3, ls4, a_bind, S_inj, String.reduceEq, reduceIte, a_fin1, a_fin2, a_fin3, Bool.not_true, Bool.not_false, a_trB, a_lt, a_le, a_gt, a_ge, a_eq, a_ne, a_add, a_sub, a_neg, a_mod, a_inW, a_niW, a_niD, decide_true, decide_false, nT2, nT3, nL0, nL1, a_eqB, a_eqS, a_neS]) (by simp only [a_sAll0, a_sExpr, a_sAsg, a_sIf, a_sRet, a_sCont, a_sOne, a_eV, a_eLoc, a_e1, a_e2, a_eAll0, a_eAll1, a_eS, a_e1S, a_eIf, a_eTr, a_eAnd1, a_eAnd2, a_tNot, a_tAnd0, a_tAnd1, a_tOr0, a_tOr1, a_tOf, a_tCmp2, a_tCmp3, a_eMeth, a_eO0, a_eO1, a_eCut, a_callF, a_callB, a_methF, ls1, ls2, ls3, ls4, a_bind, S_inj, String.reduceEq, reduceIte, a_fin1, a_fin2, a_fin3, Bool.not_true, Bool.not_false, a_trB, a_lt, a_le, a_gt, a_ge, a_eq, a_ne, a_add, a_sub, a_neg, a_mod, a_inW, a_niW, a_niD, decide_true, decide_false, nT2, nT3, nL0, nL1, a_eqB, a_eqS, a_neS]) (by simp only [a_sAll0, a_sExpr, a_sAsg, a_sIf, a_sRet, a_sCont, a_sOne, a_eV, a_eLoc, a_e1, a_e2, a_eAll0, a_eAll1, a_eS, a_e1S, a_eIf, a_eTr, a_eAnd1, a_eAnd2, a_tNot, a_tAnd0, a_tAnd1, a_tOr0, a_tOr1, a_tOf, a_tCmp2, a_tCmp3, a_eMeth, a_eO0, a_eO1, a_eCut, a_callF, a_callB, a_methF, ls1, ls2, ls3, ls4, a_bind, S_inj, String.reduceEq, reduceIte, a_fin1, a_fin2, a_fin3, Bool.not_true, Bool.not_false, a_trB, a_lt, a_le, a_gt, a_ge, a_eq, a_ne, a_add, a_sub, a_neg, a_mod, a_inW, a_niW, a_niD, decide_true, decide_false, nT2, nT3, nL0, nL1, a_eqB, a_eqS, a_neS, h2])
    have p1 := St.push hf t
    have s1 := p1.trans (St.set (o' := .list (us ++ [v'])) p1.at_)
    have kl : ∀ (i : Nat) x, hp[i]? = some x → (∃ ys, x = .tuple ys) ∨ (∃ t q, x = dcm t q) → ((hp ++ t).set f (.list (us ++ [v'])))[i]? = some x := fun i x hx hq => s1.keep i x (fun g => by
      subst g
      rw [hf] at hx
      exact lst_tk hq (Option.some.inj hx).symm) hx
    obtain ⟨ls', hp', us', x1, x2, x3, x4⟩ := loop_407 (m := m) ne vs T (us ++ [v']) (bind1 (S "at") (.int (p : Int)) (bind1 (S "worth") u (bind1 (S "kind") (.str (S tk.kd)) ls))) ((hp ++ t).set f (.list (us ++ [v']))) (t2.keep kl) (fun q hq => ok q (List.mem_cons_of_mem _ hq)) (s1.keep _ _ ne hl) s1.at_ (by rw [List.length_append, List.length_cons, List.length_nil]; omega) (by simp only [a_sAll0, a_sExpr, a_sAsg, a_sIf, a_sRet, a_sCont, a_sOne, a_eV, a_eLoc, a_e1, a_e2, a_eAll0, a_eAll1, a_eS, a_e1S, a_eIf, a_eTr, a_eAnd1, a_eAnd2, a_tNot, a_tAnd0, a_tAnd1, a_tOr0, a_tOr1, a_tOf, a_tCmp2, a_tCmp3, a_eMeth, a_eO0, a_eO1, a_eCut, a_callF, a_callB, a_methF, ls1, ls2, ls3, ls4, a_bind, S_inj, String.reduceEq, reduceIte, a_fin1, a_fin2, a_fin3, Bool.not_true, Bool.not_false, a_trB, a_lt, a_le, a_gt, a_ge, a_eq, a_ne, a_add, a_sub, a_neg, a_mod, a_inW, a_niW, a_niD, decide_true, decide_false, nT2, nT3, nL0, nL1, a_eqB, a_eqS, a_neS, h1]) (by simp only [a_sAll0, a_sExpr, a_sAsg, a_sIf, a_sRet, a_sCont, a_sOne, a_eV, a_eLoc, a_e1, a_e2, a_eAll0, a_eAll1, a_eS, a_e1S, a_eIf, a_eTr, a_eAnd1, a_eAnd2, a_tNot, a_tAnd0, a_tAnd1, a_tOr0, a_tOr1, a_tOf, a_tCmp2, a_tCmp3, a_eMeth, a_eO0, a_eO1, a_eCut, a_callF, a_callB, a_methF, ls1, ls2, ls3, ls4, a_bind, S_inj, String.reduceEq, reduceIte, a_fin1, a_fin2, a_fin3, Bool.not_true, Bool.not_false, a_trB, a_lt, a_le, a_gt, a_ge, a_eq, a_ne, a_add, a_sub, a_neg, a_mod, a_inW, a_niW, a_niD, decide_true, decide_false, nT2, nT3, nL0, nL1, a_eqB, a_eqS, a_neS, h2])
    refine ⟨ls', hp', v' :: us', (tt_step (l1 := bind1 (S "at") (.int (p : Int)) (bind1 (S "worth") u (bind1 (S "kind") (.str (S tk.kd)) ls))) (h2 := (hp ++ t).set f (.list (us ++ [v']))) hl ?_ ?_).trans x1, x2, ?_, ?_, x4⟩
    · unfold bdThree
      dsimp only
      rw [hi]
    · rw [sExpr_append (v := v') (by simp only [a_sAll0, a_sExpr, a_sAsg, a_sIf, a_sRet, a_sCont, a_sOne, a_eV, a_eLoc, a_e1, a_e2, a_eAll0, a_eAll1, a_eS, a_e1S, a_eIf, a_eTr, a_eAnd1, a_eAnd2, a_tNot, a_tAnd0, a_tAnd1, a_tOr0, a_tOr1, a_tOf, a_tCmp2, a_tCmp3, a_eMeth, a_eO0, a_eO1, a_eCut, a_callF, a_callB, a_methF, ls1, ls2, ls3, ls4, a_bind, S_inj, String.reduceEq, reduceIte, a_fin1, a_fin2, a_fin3, Bool.not_true, Bool.not_false, a_trB, a_lt, a_le, a_gt, a_ge, a_eq, a_ne, a_add, a_sub, a_neg, a_mod, a_inW, a_niW, a_niD, decide_true, decide_false, nT2, nT3, nL0, nL1, a_eqB, a_eqS, a_neS, h1]) hf q p1.at_ (by omega), a_sAll0]
    · rw [show us ++ v' :: us' = (us ++ [v']) ++ us' by rw [List.append_assoc]; rfl]
      exact s1.trans x3
    · refine td.keep fun i ys hy => ?_
      have g : i ≠ f := fun g => by
        subst g
        rw [p1.at_] at hy; cases hy
      exact x3.keep i _ g ((St.set (o' := .list (us ++ [v'])) p1.at_).keep i _ g hy)
  | [], _ :: _, _, _, _, t, _, _, _, _, _, _ => t.elim
  | _ :: _, [], _, _, _, t, _, _, _, _, _, _ => t.elim
/-- _law_told -/
theorem sp_407 {l : Nat} {vs : List V} {T : List (Tk × Nat)} {m : Int} (hl : hp[l]? = some (.list vs)) (ht : TkAts hp vs T) (ok : ∀ q ∈ T, q.1.ok) (hb : vs.length ≤ 20000) :
    ∃ f hp', orc n sc (k + 2) 407 [.ref l, .int m] hp = some (.ref f, hp') ∧ Ext hp hp' ∧ TL hp' f (mv m T) ∧ hp.length ≤ f := by
  have ne : l ≠ hp.length := Nat.ne_of_lt (lt_of_at hl)
  obtain ⟨ls', hp', us', x1, x2, x3, x4⟩ := loop_407 (n := n) (sc := sc) (k := k) (xs := vs) (m := m) ne vs T [] (bind1 (S "found") (.ref hp.length) (lsOf [(Str.ofString "tokens", .ref l), (Str.ofString "moved", .int m)])) (hp ++ [.list []]) (ht.keep fun i x hx _ => Ext.push _ _ _ _ hx) ok (Ext.push _ _ _ _ hl) (new_at _ _) (by rw [List.length_nil]; omega) (by simp only [a_sAll0, a_sExpr, a_sAsg, a_sIf, a_sRet, a_sCont, a_sOne, a_eV, a_eLoc, a_e1, a_e2, a_eAll0, a_eAll1, a_eS, a_e1S, a_eIf, a_eTr, a_eAnd1, a_eAnd2, a_tNot, a_tAnd0, a_tAnd1, a_tOr0, a_tOr1, a_tOf, a_tCmp2, a_tCmp3, a_eMeth, a_eO0, a_eO1, a_eCut, a_callF, a_callB, a_methF, ls1, ls2, ls3, ls4, a_bind, S_inj, String.reduceEq, reduceIte, a_fin1, a_fin2, a_fin3, Bool.not_true, Bool.not_false, a_trB, a_lt, a_le, a_gt, a_ge, a_eq, a_ne, a_add, a_sub, a_neg, a_mod, a_inW, a_niW, a_niD, decide_true, decide_false, nT2, nT3, nL0, nL1, a_eqB, a_eqS, a_neS]) (by simp only [a_sAll0, a_sExpr, a_sAsg, a_sIf, a_sRet, a_sCont, a_sOne, a_eV, a_eLoc, a_e1, a_e2, a_eAll0, a_eAll1, a_eS, a_e1S, a_eIf, a_eTr, a_eAnd1, a_eAnd2, a_tNot, a_tAnd0, a_tAnd1, a_tOr0, a_tOr1, a_tOf, a_tCmp2, a_tCmp3, a_eMeth, a_eO0, a_eO1, a_eCut, a_callF, a_callB, a_methF, ls1, ls2, ls3, ls4, a_bind, S_inj, String.reduceEq, reduceIte, a_fin1, a_fin2, a_fin3, Bool.not_true, Bool.not_false, a_trB, a_lt, a_le, a_gt, a_ge, a_eq, a_ne, a_add, a_sub, a_neg, a_mod, a_inW, a_niW, a_niD, decide_true, decide_false, nT2, nT3, nL0, nL1, a_eqB, a_eqS, a_neS])
  refine ⟨hp.length, hp', ?_, Ext.new x3, ⟨us', x3.at_, x4⟩, Nat.le_refl _⟩
  rw [orc_def rfl rfl rfl (den_407 ..)]
  unfold body_407
  rw [a_sAsg]
  simp only [a_eS, a_eAll0, nL0]
  rw [a_sForT (i := l) (h1 := hp ++ [.list []]) (by simp only [a_sAll0, a_sExpr, a_sAsg, a_sIf, a_sRet, a_sCont, a_sOne, a_eV, a_eLoc, a_e1, a_e2, a_eAll0, a_eAll1, a_eS, a_e1S, a_eIf, a_eTr, a_eAnd1, a_eAnd2, a_tNot, a_tAnd0, a_tAnd1, a_tOr0, a_tOr1, a_tOf, a_tCmp2, a_tCmp3, a_eMeth, a_eO0, a_eO1, a_eCut, a_callF, a_callB, a_methF, ls1, ls2, ls3, ls4, a_bind, S_inj, String.reduceEq, reduceIte, a_fin1, a_fin2, a_fin3, Bool.not_true, Bool.not_false, a_trB, a_lt, a_le, a_gt, a_ge, a_eq, a_ne, a_add, a_sub, a_neg, a_mod, a_inW, a_niW, a_niD, decide_true, decide_false, nT2, nT3, nL0, nL1, a_eqB, a_eqS, a_neS]) (Ext.push _ _ _ _ hl) (by omega), x1, a_then0]
  simp only [a_sAll0, a_sExpr, a_sAsg, a_sIf, a_sRet, a_sCont, a_sOne, a_eV, a_eLoc, a_e1, a_e2, a_eAll0, a_eAll1, a_eS, a_e1S, a_eIf, a_eTr, a_eAnd1, a_eAnd2, a_tNot, a_tAnd0, a_tAnd1, a_tOr0, a_tOr1, a_tOf, a_tCmp2, a_tCmp3, a_eMeth, a_eO0, a_eO1, a_eCut, a_callF, a_callB, a_methF, ls1, ls2, ls3, ls4, a_bind, S_inj, String.reduceEq, reduceIte, a_fin1, a_fin2, a_fin3, Bool.not_true, Bool.not_false, a_trB, a_lt, a_le, a_gt, a_ge, a_eq, a_ne, a_add, a_sub, a_neg, a_mod, a_inW, a_niW, a_niD, decide_true, decide_false, nT2, nT3, nL0, nL1, a_eqB, a_eqS, a_neS, x2]
/-- the tokens of a cursor, told -/
theorem told_of {vs : List V} {T : List (Tk × Nat)} {m : Int} {ls : Ls} {args : List Ev} {me : Ev} (hn : 20000 ≤ n) (hc : orc n sc (k + 7) 187 vs hp = some (.ref hp.length, hp ++ [cur d (a : Int) (e : Int)])) (K : Toks a w T) (W : Win d a e w) (ha : eAll args ls hp = some (vs, hp)) (hm : ∀ hp', me ls hp' = some (.int m, hp')) :
    ∃ f hp', e1S (callV (orc n sc (k + 7))) (eV (.fn 407)) [e1S (callV (orc n sc (k + 7))) (eV (.fn 380)) [e1S (callV (orc n sc (k + 7))) (eV (.fn 187)) args], me] ls hp = some (.ref f, hp') ∧ Ext hp hp' ∧ TL hp' f (mv m T) ∧ hp.length ≤ f := by
  obtain ⟨l, h1, us, a', q1, q2, q3, q4, q5⟩ := sp_380 (n := n) (sc := sc) (k := k) K (new_at hp _) W hn
  have kl := K.len
  have w1 := W.len
  have w2 := W.le
  have w3 := W.lim
  obtain ⟨f, h2, y1, y2, y3, y4⟩ := sp_407 (n := n) (sc := sc) (k := k + 5) (m := m) q2 q3 K.ok (by rw [q3.len]; omega)
  have E := Ext.new q4
  refine ⟨f, h2, ?_, E.trans y2, y3, Nat.le_trans ?_ y4⟩
  · simp only [a_sAll0, a_sExpr, a_sAsg, a_sIf, a_sRet, a_sCont, a_sOne, a_eV, a_eLoc, a_e1, a_e2, a_eAll0, a_eAll1, a_eS, a_e1S, a_eIf, a_eTr, a_eAnd1, a_eAnd2, a_tNot, a_tAnd0, a_tAnd1, a_tOr0, a_tOr1, a_tOf, a_tCmp2, a_tCmp3, a_eMeth, a_eO0, a_eO1, a_eCut, a_callF, a_callB, a_methF, ls1, ls2, ls3, ls4, a_bind, S_inj, String.reduceEq, reduceIte, a_fin1, a_fin2, a_fin3, Bool.not_true, Bool.not_false, a_trB, a_lt, a_le, a_gt, a_ge, a_eq, a_ne, a_add, a_sub, a_neg, a_mod, a_inW, a_niW, a_niD, decide_true, decide_false, nT2, nT3, nL0, nL1, a_eqB, a_eqS, a_neS, ha, hc, q1, hm, y1]
  · have := lt_of_at q4.at_
    omega
end
end Mine

open PySem PySem.W PyProof.Rows PySem.Calls
set_option Elab.async false
set_option maxRecDepth 100000
set_option maxHeartbeats 1000000
set_option linter.all false
namespace Mine
/-- an expression that reads as an int and leaves the heap -/
def EvI (e : Ev) (ls : Ls) (hp : Hp) (x : Int) : Prop := e ls hp = some (.int x, hp)
section
variable {ls : Ls} {hp : Hp} {a b : Ev} {x y : Int}
theorem i_add (h : EvI a ls hp x) (g : EvI b ls hp y) : EvI (e2 (binV .Add) a b) ls hp (x + y) := by
  show e2 _ a b ls hp = _
  rw [a_e2, h]; dsimp only; rw [g]; rfl
theorem i_sub (h : EvI a ls hp x) (g : EvI b ls hp y) : EvI (e2 (binV .Sub) a b) ls hp (x - y) := by
  show e2 _ a b ls hp = _
  rw [a_e2, h]; dsimp only; rw [g]; rfl
theorem i_mod (h : EvI a ls hp x) (g : EvI b ls hp y) (q : y ≠ 0) : EvI (e2 (binV .Mod) a b) ls hp (x.fmod y) := by
  show e2 _ a b ls hp = _
  rw [a_e2, h]; dsimp only; rw [g]; dsimp only; rw [a_mod, if_neg q]
theorem i_div (h : EvI a ls hp x) (g : EvI b ls hp y) (q : y ≠ 0) (q2 : y.natAbs < 1000000) : EvI (e2 (binV .FloorDiv) a b) ls hp (x.fdiv y) := by
  show e2 _ a b ls hp = _
  rw [a_e2, h]; dsimp only; rw [g]; dsimp only; rw [a_fdiv, if_neg (by rintro (p | p); exact q p; omega)]
theorem i_mul (h : EvI a ls hp x) (g : EvI b ls hp y) (q : x.natAbs < 2 ^ 60) (q2 : y.natAbs < 2 ^ 60) : EvI (e2 (binV .Mult) a b) ls hp (x * y) := by
  show e2 _ a b ls hp = _
  rw [a_e2, h]; dsimp only; rw [g]; dsimp only; exact mulS x y hp q q2
theorem i_pow (h : EvI a ls hp x) (g : EvI b ls hp y) (q : 0 ≤ y ∧ y ≤ 20) (q2 : x.natAbs < 2 ^ 60) : EvI (e2 (binV .Pow) a b) ls hp (x ^ y.toNat) := by
  show e2 _ a b ls hp = _
  rw [a_e2, h]; dsimp only; rw [g]; dsimp only; rw [a_pow, if_pos ⟨q.1, q.2, Nat.lt_of_lt_of_le q2 (Nat.pow_le_pow_right (by decide) (by decide))⟩]
theorem i_lit (i : Int) : EvI (eV (.int i)) ls hp i := rfl
theorem i_loc {x : Str} {i : Int} (h : ls x = some (.int i)) : EvI (eLoc x) ls hp i := by
  show eLoc x ls hp = _
  rw [a_eLoc, h]
end
theorem fm {x y : Int} (h : 0 < y) : 0 ≤ x.fmod y ∧ x.fmod y < y := ⟨Int.fmod_nonneg_of_pos _ h, Int.fmod_lt_of_pos _ h⟩
theorem fd {x y : Int} (h : 0 < y) (hx : 0 ≤ x) : 0 ≤ x.fdiv y := Int.fdiv_nonneg hx (Int.le_of_lt h)
theorem a_sItem {o i e : Ev} {ls : Ls} {hp : Hp} {v : V} {l : Nat} {k : Nat} {xs : List V} (he : e ls hp = some (v, hp)) (ho : o ls hp = some (.ref l, hp)) (hi : i ls hp = some (.int (k : Int), hp)) (hx : hp[l]? = some (.list xs)) (hk : k < xs.length) (hl : xs.length ≤ 1000000) (es : List Ex) :
    sAll (sItem o i e :: es) ls hp = sAll es ls (hp.set l (.list (xs.set k v))) := by
  refine a_sOne _ _ _ _ _ _ ?_
  unfold sItem
  rw [he]
  dsimp only
  rw [ho]
  dsimp only
  rw [hi]
  dsimp only
  rw [hx]
  dsimp only
  rw [if_pos (by omega), Int.toNat_natCast]
/-- the pen: its ints, a place within the bound -/
def Pen (hp : Hp) (p ce : Nat) (cs : List Int) (B : Nat) : Prop := ∃ pl g, hp[p]? = some (.list [.ref ce, .int ((pl : Nat) : Int), .int g]) ∧ hp[ce]? = some (.list (cs.map .int)) ∧ ce ≠ p ∧ pl ≤ B
def Kp (p : Nat) (hp hp' : Hp) : Prop := ∀ (i : Nat) x, i ≠ p → hp[i]? = some x → hp'[i]? = some x
theorem Kp.refl (p : Nat) (hp : Hp) : Kp p hp hp := fun _ _ _ h => h
theorem Kp.trans {p : Nat} {h0 h1 h2 : Hp} (A : Kp p h0 h1) (B : Kp p h1 h2) : Kp p h0 h2 := fun i x n h => B i x n (A i x n h)
theorem Ext.kp {p : Nat} {h0 h1 : Hp} (A : Ext h0 h1) : Kp p h0 h1 := fun i x _ h => A i x h
theorem St.kp {p : Nat} {o : O} {h0 h1 : Hp} (A : St p o h0 h1) : Kp p h0 h1 := A.keep
theorem Pen.ext {hp hp' : Hp} {p ce : Nat} {cs : List Int} {B : Nat} (h : Pen hp p ce cs B) (E : Ext hp hp') : Pen hp' p ce cs B := by
  obtain ⟨pl, g, h1, h2, h3, h4⟩ := h
  exact ⟨pl, g, E _ _ h1, E _ _ h2, h3, h4⟩
theorem Pen.le {hp : Hp} {p ce : Nat} {cs : List Int} {B B' : Nat} (h : Pen hp p ce cs B) (E : B ≤ B') : Pen hp p ce cs B' := by
  obtain ⟨pl, g, h1, h2, h3, h4⟩ := h
  exact ⟨pl, g, h1, h2, h3, by omega⟩
section
variable {n : Nat} {sc : Addr × List Int} {k : Nat} {hp : Hp} {p ce B : Nat} {cs : List Int}
theorem fin_ret (v : V) (ls : Ls) (hp : Hp) : fin (some (.ret v, ls, hp)) = some (v, hp) := rfl
/-- the draw's tail: the blend of a cell -/
theorem tail_395 {ls : Ls} {cell : Int} {pl : Nat} {many : Int} (hm : 0 < many) (hpl : pl ≤ 1000) (h1 : ls (S "cell") = some (.int cell)) (h2 : ls (S "place") = some (.int (pl : Int))) (h3 : ls (S "many") = some (.int many)) :
    ∃ r, fin (sAll ((body_395 (orc n sc k) n sc).drop 5) ls hp) = some (.int r, hp) ∧ 0 ≤ r ∧ r < many := by
  have c1 := fm (x := cell) (y := 2147483629) (by decide)
  have b1 : EvI (e2 (binV .Mod) (e2 (binV .Pow) (e2 (binV .Add) (e2 (binV .Add) (e2 (binV .Mod) (eLoc (S "cell")) (eV (.int 2147483629))) (e2 (binV .Mult) (eV (.int 40503)) (eLoc (S "place")))) (eV (.int 977))) (eV (.int 3))) (eV (.int 2147483587))) ls hp (((cell.fmod 2147483629 + 40503 * (pl : Int) + 977) ^ (3 : Int).toNat).fmod 2147483587) :=
    i_mod (i_pow (i_add (i_add (i_mod (i_loc h1) (i_lit _) (by decide)) (i_mul (i_lit _) (i_loc h2) (by decide) (by omega))) (i_lit _)) (i_lit _) (by decide) (by omega)) (i_lit _) (by decide)
  have c2 := fm (x := (cell.fmod 2147483629 + 40503 * (pl : Int) + 977) ^ (3 : Int).toNat) (y := 2147483587) (by decide)
  revert b1 c2
  generalize ((cell.fmod 2147483629 + 40503 * (pl : Int) + 977) ^ (3 : Int).toNat).fmod 2147483587 = x
  intro b1 c2
  have h4 : bind1 (S "blend") (.int x) ls (S "place") = some (.int (pl : Int)) := by rw [bind_ne (by decide)]; exact h2
  have h5 : bind1 (S "blend") (.int x) ls (S "many") = some (.int many) := by rw [bind_ne (by decide)]; exact h3
  have h6 : bind1 (S "blend") (.int x) ls (S "blend") = some (.int x) := if_pos rfl
  have xb : x * (2 * (pl : Int) + 5003) ≤ 2147483587 * 7003 := Int.le_trans (Int.mul_le_mul_of_nonneg_right (Int.le_of_lt c2.2) (by omega)) (Int.mul_le_mul_of_nonneg_left (by omega) (by decide))
  have xa : 0 ≤ x * (2 * (pl : Int) + 5003) := Int.mul_nonneg c2.1 (by omega)
  have pb : (pl : Int) * (pl : Int) ≤ 1000 * 1000 := Int.le_trans (Int.mul_le_mul_of_nonneg_right (show (pl : Int) ≤ 1000 by omega) (by omega)) (Int.mul_le_mul_of_nonneg_left (by omega) (by decide))
  have pa : 0 ≤ (pl : Int) * (pl : Int) := Int.mul_nonneg (by omega) (by omega)
  have b2 : EvI (e2 (binV .Mod) (e2 (binV .Pow) (e2 (binV .Add) (e2 (binV .Add) (e2 (binV .Mult) (eLoc (S "blend")) (e2 (binV .Add) (e2 (binV .Mult) (eV (.int 2)) (eLoc (S "place"))) (eV (.int 5003)))) (e2 (binV .Mult) (eLoc (S "place")) (eLoc (S "place")))) (eV (.int 11))) (eV (.int 3))) (eV (.int 2147483579))) (bind1 (S "blend") (.int x) ls) hp (((x * (2 * (pl : Int) + 5003) + (pl : Int) * (pl : Int) + 11) ^ (3 : Int).toNat).fmod 2147483579) :=
    i_mod (i_pow (i_add (i_add (i_mul (i_loc h6) (i_add (i_mul (i_lit _) (i_loc h4) (by decide) (by omega)) (i_lit _)) (by omega) (by omega)) (i_mul (i_loc h4) (i_loc h4) (by omega) (by omega))) (i_lit _)) (i_lit _) (by decide) (by omega)) (i_lit _) (by decide)
  have c3 := fm (x := (x * (2 * (pl : Int) + 5003) + (pl : Int) * (pl : Int) + 11) ^ (3 : Int).toNat) (y := 2147483579) (by decide)
  revert b2 c3
  generalize ((x * (2 * (pl : Int) + 5003) + (pl : Int) * (pl : Int) + 11) ^ (3 : Int).toNat).fmod 2147483579 = y
  intro b2 c3
  have h7 : bind1 (S "blend") (.int y) (bind1 (S "blend") (.int x) ls) (S "many") = some (.int many) := by rw [bind_ne (by decide)]; exact h5
  have h8 : bind1 (S "blend") (.int y) (bind1 (S "blend") (.int x) ls) (S "blend") = some (.int y) := if_pos rfl
  have b3 : EvI (e2 (binV .Mod) (e2 (binV .FloorDiv) (eLoc (S "blend")) (eV (.int 64))) (eLoc (S "many"))) (bind1 (S "blend") (.int y) (bind1 (S "blend") (.int x) ls)) hp ((y.fdiv 64).fmod many) :=
    i_mod (i_div (i_loc h8) (i_lit _) (by decide) (by decide)) (i_loc h7) (by omega)
  refine ⟨(y.fdiv 64).fmod many, ?_, fm hm⟩
  show fin (sAll [sAsg (S "blend") _, sAsg (S "blend") _, sRet _] ls hp) = _
  rw [a_sAsg, b1]
  dsimp only
  rw [a_sAsg, b2]
  dsimp only
  rw [a_sRet, b3]
  rfl
/-- the pen's parts -/
theorem pen_i {ls : Ls} {i : Nat} {j : Int} {xs : List V} {v : V} (hj : j = (i : Int)) (h : hp[p]? = some (.list xs)) (hl : ls (S "pen") = some (.ref p)) (hx : xs[i]? = some v) (hi : i < 10) : e2 idxV (eLoc (S "pen")) (eV (.int j)) ls hp = some (v, hp) := by
  subst hj
  rw [a_e2, a_eLoc, hl]
  dsimp only
  rw [a_eV]
  dsimp only
  exact a_idxL h hx (by omega)
theorem sp_395 (P : Pen hp p ce cs B) (hB : B ≤ 1000) (hc : cs.length ≤ 40) {many : Int} (hm : 0 < many) (hm2 : many ≤ 1000) :
    ∃ r hp', orc n sc (k + 1) 395 [.ref p, .int many] hp = some (.int r, hp') ∧ (0 ≤ r ∧ r < many) ∧ Kp p hp hp' ∧ Pen hp' p ce cs (B + 1) := by
  obtain ⟨pl, g, h1, h2, h3, h4⟩ := P
  rw [orc_def rfl rfl rfl (den_395 ..)]
  have lp : lsOf [(Str.ofString "pen", .ref p), (Str.ofString "many", .int many)] (S "pen") = some (.ref p) := by rw [ls2, if_neg (by rw [S_inj]; decide), if_pos rfl]
  have lm : lsOf [(Str.ofString "pen", .ref p), (Str.ofString "many", .int many)] (S "many") = some (.int many) := by rw [ls2, if_pos rfl]
  generalize lsOf [(Str.ofString "pen", .ref p), (Str.ofString "many", .int many)] = L at lp lm
  have mz : many ≠ 0 := by omega
  by_cases hg : 0 < g
  · refine ⟨g.fmod many, hp.set p (.list [.ref ce, .int (pl : Int), .int (g.fdiv many)]), ?_, fm hm, (St.set h1).kp, ?_⟩
    · have t : tCmp2 (cmpV .Gt) (e2 idxV (eLoc (S "pen")) (eV (.int 2))) (eV (.int 0)) L hp = some (true, hp) := by
        rw [a_tCmp2, pen_i (i := 2) (j := 2) rfl h1 lp rfl (by decide)]
        dsimp only
        rw [a_eV]
        dsimp only
        rw [a_gt, decide_eq_true hg]
      have e1 : EvI (e2 (binV .Mod) (e2 idxV (eLoc (S "pen")) (eV (.int 2))) (eLoc (S "many"))) L hp (g.fmod many) := i_mod (pen_i (i := 2) (j := 2) rfl h1 lp rfl (by decide)) (i_loc lm) mz
      have lp2 : bind1 (S "digit") (.int (g.fmod many)) L (S "pen") = some (.ref p) := by rw [bind_ne (by decide)]; exact lp
      have lm2 : bind1 (S "digit") (.int (g.fmod many)) L (S "many") = some (.int many) := by rw [bind_ne (by decide)]; exact lm
      have e2' : EvI (e2 (binV .FloorDiv) (e2 idxV (eLoc (S "pen")) (eV (.int 2))) (eLoc (S "many"))) (bind1 (S "digit") (.int (g.fmod many)) L) hp (g.fdiv many) := i_div (pen_i (i := 2) (j := 2) rfl h1 lp2 rfl (by decide)) (i_loc lm2) mz (by omega)
      unfold body_395
      rw [a_sIf, t]
      dsimp only
      rw [a_sAsg, e1]
      dsimp only
      rw [a_sItem (l := p) (k := 2) e2' (by rw [a_eLoc, lp2]) rfl h1 (by simp) (by simp), a_sRet, a_eLoc, show bind1 (S "digit") (.int (g.fmod many)) L (S "digit") = some (.int (g.fmod many)) from if_pos rfl]
      rfl
    · exact ⟨pl, g.fdiv many, set_at h1, (St.set h1).keep _ _ h3 h2, h3, by omega⟩
  · have t : tCmp2 (cmpV .Gt) (e2 idxV (eLoc (S "pen")) (eV (.int 2))) (eV (.int 0)) L hp = some (false, hp) := by
      rw [a_tCmp2, pen_i (i := 2) (j := 2) rfl h1 lp rfl (by decide)]
      dsimp only
      rw [a_eV]
      dsimp only
      rw [a_gt, decide_eq_false hg]
    have hs := St.set (o' := .list [.ref ce, .int ((pl + 1 : Nat) : Int), .int g]) h1
    have st : ∀ es, sAll (sAsg (S "place") (e2 idxV (eLoc (S "pen")) (eV (.int 1))) :: sItem (eLoc (S "pen")) (eV (.int 1)) (e2 (binV .Add) (eLoc (S "place")) (eV (.int 1))) :: es) L hp = sAll es (bind1 (S "place") (.int (pl : Int)) L) (hp.set p (.list [.ref ce, .int ((pl + 1 : Nat) : Int), .int g])) := fun es => by
      rw [a_sAsg, pen_i (i := 1) (j := 1) rfl h1 lp rfl (by decide)]
      dsimp only
      have e1 : e2 (binV .Add) (eLoc (S "place")) (eV (.int 1)) (bind1 (S "place") (.int (pl : Int)) L) hp = some (.int ((pl + 1 : Nat) : Int), hp) := i_add (x := (pl : Int)) (i_loc (if_pos rfl)) (i_lit 1)
      rw [a_sItem (l := p) (k := 1) e1 (by rw [a_eLoc, bind_ne (by decide), lp]) rfl h1 (by simp) (by simp)]
      rfl
    have lp1 : bind1 (S "place") (.int (pl : Int)) L (S "pen") = some (.ref p) := by rw [bind_ne (by decide)]; exact lp
    have lm1 : bind1 (S "place") (.int (pl : Int)) L (S "many") = some (.int many) := by rw [bind_ne (by decide)]; exact lm
    have lq1 : bind1 (S "place") (.int (pl : Int)) L (S "place") = some (.int (pl : Int)) := if_pos rfl
    generalize bind1 (S "place") (.int (pl : Int)) L = L1 at st lp1 lm1 lq1
    have hce := hs.keep _ _ h3 h2
    have hp1 := hs.at_
    have kp := hs.kp
    generalize hp.set p (.list [.ref ce, .int ((pl + 1 : Nat) : Int), .int g]) = hq at st hce hp1 kp
    have P' : Pen hq p ce cs (B + 1) := ⟨pl + 1, g, hp1, hce, h3, by omega⟩
    have p0 : ∀ L2 : Ls, L2 (S "pen") = some (.ref p) → e2 idxV (eLoc (S "pen")) (eV (.int 0)) L2 hq = some (.ref ce, hq) := fun L2 h => pen_i (i := 0) (j := 0) rfl hp1 h rfl (by decide)
    have ln : ∀ L2 : Ls, L2 (S "pen") = some (.ref p) → EvI (e1S (callV (orc n sc k)) (eV (.bi .len)) [(e2 idxV (eLoc (S "pen")) (eV (.int 0)))]) L2 hq (cs.length : Int) := fun L2 h => by
      show e1S _ _ _ L2 hq = _
      rw [a_e1S, a_eV]
      dsimp only
      rw [a_eAll1, p0 L2 h]
      dsimp only
      rw [a_eAll0]
      dsimp only
      rw [a_callB, a_lenL hq hce (by rw [List.length_map]; omega), List.length_map]
    have cl : ∃ cell : Int, eIf (tOf (e2 idxV (eLoc (S "pen")) (eV (.int 0))) trV) (e2 idxV (e2 idxV (eLoc (S "pen")) (eV (.int 0))) (e2 (binV .Mod) (eLoc (S "place")) (e1S (callV (orc n sc k)) (eV (.bi .len)) [(e2 idxV (eLoc (S "pen")) (eV (.int 0)))]))) (eV (.int 0)) L1 hq = some (.int cell, hq) := by
      rw [a_eIf, a_tOf, p0 L1 lp1]
      dsimp only
      have tr : trV (.ref ce) hq = some (!(cs.map V.int).isEmpty) := by
        unfold trV
        dsimp only
        rw [hce]
        dsimp only
        rw [if_pos (by rw [List.length_map]; omega)]
      rw [tr]
      dsimp only
      cases cs with
      | nil => exact ⟨0, rfl⟩
      | cons c0 cs =>
        have ix : EvI (e2 (binV .Mod) (eLoc (S "place")) (e1S (callV (orc n sc k)) (eV (.bi .len)) [(e2 idxV (eLoc (S "pen")) (eV (.int 0)))])) L1 hq ((pl : Int).fmod ((c0 :: cs).length : Int)) := i_mod (i_loc lq1) (ln L1 lp1) (by rw [List.length_cons]; omega)
        have em : (pl : Int).fmod ((c0 :: cs).length : Int) = ((pl % (c0 :: cs).length : Nat) : Int) := by rw [Int.fmod_eq_emod_of_nonneg _ (by omega)]; rfl
        have ml : pl % (c0 :: cs).length < (c0 :: cs).length := Nat.mod_lt _ (by rw [List.length_cons]; omega)
        refine ⟨(c0 :: cs)[pl % (c0 :: cs).length], ?_⟩
        show e2 idxV _ _ L1 hq = _
        rw [a_e2, p0 L1 lp1]
        dsimp only
        rw [ix]
        dsimp only
        rw [em]
        exact a_idxL hce (by rw [List.getElem?_map, List.getElem?_eq_getElem ml]; rfl) (by omega)
    obtain ⟨cell, cl⟩ := cl
    have lp2 : bind1 (S "cell") (.int cell) L1 (S "pen") = some (.ref p) := by rw [bind_ne (by decide)]; exact lp1
    have lm2 : bind1 (S "cell") (.int cell) L1 (S "many") = some (.int many) := by rw [bind_ne (by decide)]; exact lm1
    have lq2 : bind1 (S "cell") (.int cell) L1 (S "place") = some (.int (pl : Int)) := by rw [bind_ne (by decide)]; exact lq1
    have lc2 : bind1 (S "cell") (.int cell) L1 (S "cell") = some (.int cell) := if_pos rfl
    have go : fin (sAll (body_395 (orc n sc k) n sc) L hp) = fin (sAll ((body_395 (orc n sc k) n sc).drop 4) (bind1 (S "cell") (.int cell) L1) hq) := by
      conv => lhs; unfold body_395
      rw [a_sIf, t]
      dsimp only
      rw [a_sAll0, a_then0, st, a_sAsg, cl]
      rfl
    rw [go]
    generalize bind1 (S "cell") (.int cell) L1 = L2 at lp2 lm2 lq2 lc2
    have ab : ∀ L3 : Ls, L3 (S "cell") = some (.int cell) → EvI (e1S (callV (orc n sc k)) (eV (.bi .abs)) [(eLoc (S "cell"))]) L3 hq (cell.natAbs : Int) := fun L3 h => by
      show e1S _ _ _ L3 hq = _
      rw [a_e1S, a_eV]
      dsimp only
      rw [a_eAll1, a_eLoc, h]
      rfl
    have tn : ∀ L3 : Ls, EvI (e2 (binV .Pow) (eV (.int 10)) (eV (.int 18))) L3 hq (10 ^ (18 : Int).toNat) := fun L3 => i_pow (i_lit 10) (i_lit 18) (by decide) (by decide)
    obtain ⟨b, tb⟩ : ∃ b, tAnd [(tCmp2 (cmpV .Lt) (eLoc (S "place")) (e1S (callV (orc n sc k)) (eV (.bi .len)) [(e2 idxV (eLoc (S "pen")) (eV (.int 0)))])), (tCmp2 (cmpV .GtE) (e1S (callV (orc n sc k)) (eV (.bi .abs)) [(eLoc (S "cell"))]) (e2 (binV .Pow) (eV (.int 10)) (eV (.int 18))))] L2 hq = some (b, hq) := by
      rw [a_tAnd1, a_tCmp2, a_eLoc, lq2]
      dsimp only
      rw [ln L2 lp2]
      dsimp only
      rw [a_lt]
      dsimp only
      cases decide ((pl : Int) < (cs.length : Int)) with
      | false => exact ⟨false, rfl⟩
      | true =>
        refine ⟨decide ((10 ^ (18 : Int).toNat : Int) ≤ (cell.natAbs : Int)), ?_⟩
        dsimp only
        rw [a_tAnd1, a_tCmp2, ab L2 lc2]
        dsimp only
        rw [tn L2]
        dsimp only
        rw [a_ge]
        dsimp only
        cases decide ((10 ^ (18 : Int).toNat : Int) ≤ (cell.natAbs : Int)) <;> rfl
    show ∃ r hp', fin (sAll (sIf (tAnd [(tCmp2 (cmpV .Lt) (eLoc (S "place")) (e1S (callV (orc n sc k)) (eV (.bi .len)) [(e2 idxV (eLoc (S "pen")) (eV (.int 0)))])), (tCmp2 (cmpV .GtE) (e1S (callV (orc n sc k)) (eV (.bi .abs)) [(eLoc (S "cell"))]) (e2 (binV .Pow) (eV (.int 10)) (eV (.int 18))))]) _ (sAll []) :: (body_395 (orc n sc k) n sc).drop 5) L2 hq) = some (.int r, hp') ∧ _
    rw [a_sIf, tb]
    cases b with
    | false =>
      dsimp only
      rw [a_sAll0, a_then0]
      obtain ⟨r, q1, q2⟩ := tail_395 (n := n) (sc := sc) (k := k) (hp := hq) hm (by omega : pl ≤ 1000) lc2 lq2 lm2
      exact ⟨r, hq, q1, q2, kp, P'⟩
    | true =>
      dsimp only
      have eg : EvI (e2 (binV .Sub) (e1S (callV (orc n sc k)) (eV (.bi .abs)) [(eLoc (S "cell"))]) (e2 (binV .Pow) (eV (.int 10)) (eV (.int 18)))) L2 hq ((cell.natAbs : Int) - 10 ^ (18 : Int).toNat) := i_sub (ab L2 lc2) (tn L2)
      revert eg
      generalize (cell.natAbs : Int) - 10 ^ (18 : Int).toNat = gr
      intro eg
      have lp3 : bind1 (S "great") (.int gr) L2 (S "pen") = some (.ref p) := by rw [bind_ne (by decide)]; exact lp2
      have lm3 : bind1 (S "great") (.int gr) L2 (S "many") = some (.int many) := by rw [bind_ne (by decide)]; exact lm2
      have lg3 : bind1 (S "great") (.int gr) L2 (S "great") = some (.int gr) := if_pos rfl
      generalize hL3 : bind1 (S "great") (.int gr) L2 = L3 at lp3 lm3 lg3
      have e2' : EvI (e2 (binV .FloorDiv) (eLoc (S "great")) (eLoc (S "many"))) L3 hq (gr.fdiv many) := i_div (i_loc lg3) (i_loc lm3) mz (by omega)
      have s2 := St.set (o' := .list [.ref ce, .int ((pl + 1 : Nat) : Int), .int (gr.fdiv many)]) hp1
      refine ⟨gr.fmod many, hq.set p (.list [.ref ce, .int ((pl + 1 : Nat) : Int), .int (gr.fdiv many)]), ?_, fm hm, kp.trans s2.kp, ⟨pl + 1, gr.fdiv many, s2.at_, s2.keep _ _ h3 hce, h3, by omega⟩⟩
      rw [a_sAsg, eg]
      dsimp only
      rw [hL3, a_sItem (l := p) (k := 2) e2' (by rw [a_eLoc, lp3]) rfl hp1 (by simp) (by simp)]
      have e3' : ∀ hp, EvI (e2 (binV .Mod) (eLoc (S "great")) (eLoc (S "many"))) L3 hp (gr.fmod many) := fun hp => i_mod (i_loc lg3) (i_loc lm3) mz
      rw [a_sRet, e3']
      rfl
end
end Mine

open PySem PySem.W PyProof.Rows PySem.Calls
set_option Elab.async false
set_option maxRecDepth 100000
set_option maxHeartbeats 1000000
set_option linter.all false
namespace Mine
theorem byteJoin_of (hp : Hp) : ∀ ps : List (List UInt8), byteJoin hp (ps.map .bytes) = some ps.flatten
  | [] => rfl
  | b :: ps => by
    rw [List.map_cons]
    show (byteJoin hp (ps.map .bytes)).map (b ++ ·) = _
    rw [byteJoin_of hp ps, List.flatten_cons]
    rfl
theorem piece_len {b : List UInt8} (h : b ∈ pieces) : b.length ≤ 8 := by
  have : pieces.all (fun b => decide (b.length ≤ 8)) = true := by decide
  rw [List.all_eq_true] at this
  exact of_decide_eq_true (this b h)
theorem flat_len : ∀ (ps : List (List UInt8)), (∀ q ∈ ps, q ∈ pieces) → ps.flatten.length ≤ 8 * ps.length
  | [], _ => Nat.le_refl _
  | b :: ps, h => by
    have h1 := piece_len (h b List.mem_cons_self)
    have h2 := flat_len ps fun q hq => h q (List.mem_cons_of_mem _ hq)
    rw [List.flatten_cons, List.length_append, List.length_cons]
    omega
noncomputable def whites : List (List UInt8) := [[32], [10], [13, 10], [9, 0], [32, 37, 32, 110, 111, 116, 101, 32, 40, 10], [12, 32, 32]]
theorem Pen.kp {hp hp' : Hp} {p ce : Nat} {cs : List Int} {B l : Nat} (h : Pen hp p ce cs B) (E : Kp l hp hp') (h1 : p ≠ l) (h2 : ce ≠ l) : Pen hp' p ce cs B := by
  obtain ⟨pl, g, q1, q2, q3, q4⟩ := h
  exact ⟨pl, g, E _ _ h1 q1, E _ _ h2 q2, q3, q4⟩
section
variable {n : Nat} {sc : Addr × List Int} {k : Nat} {hp : Hp} {p ce B : Nat} {cs : List Int}
/-- a drawn piece -/
theorem piece_400 {x : Nat} {ls : Ls} (P : Pen hp p ce cs B) (hB : B ≤ 1000) (hc : cs.length ≤ 40) (hx : hp[x]? = some (.cell (some (.ref p)))) :
    ∃ b hp', e2 idxV (eV (.seq 381)) (e1S (callV (orc n sc (k + 1))) (eV (.fn 395)) [(eCell (some x)), (eV (.int 24))]) ls hp = some (.bytes b, hp') ∧ b ∈ pieces ∧ Kp p hp hp' ∧ Pen hp' p ce cs (B + 1) := by
  obtain ⟨r, h1, q1, q2, q3, q4⟩ := sp_395 (n := n) (sc := sc) (k := k) P hB hc (many := 24) (by decide) (by decide)
  have hl : pieces.length = 24 := rfl
  have hr : r.toNat < pieces.length := by omega
  refine ⟨pieces[r.toNat], h1, ?_, List.getElem_mem _, q3, q4⟩
  have ix : idxV (.seq 381) (.int r) h1 = some (.bytes pieces[r.toNat], h1) := by
    unfold idxV
    dsimp only
    rw [if_pos ⟨rfl, q2.1⟩, List.getElem?_eq_getElem hr]
  simp only [a_sAll0, a_sExpr, a_sAsg, a_sIf, a_sRet, a_sCont, a_sOne, a_eV, a_eLoc, a_e1, a_e2, a_eAll0, a_eAll1, a_eS, a_e1S, a_eIf, a_eTr, a_eAnd1, a_eAnd2, a_tNot, a_tAnd0, a_tAnd1, a_tOr0, a_tOr1, a_tOf, a_tCmp2, a_tCmp3, a_eMeth, a_eO0, a_eO1, a_eCut, a_callF, a_callB, a_methF, ls1, ls2, ls3, ls4, a_bind, S_inj, String.reduceEq, reduceIte, a_fin1, a_fin2, a_fin3, Bool.not_true, Bool.not_false, a_trB, a_lt, a_le, a_gt, a_ge, a_eq, a_ne, a_add, a_sub, a_neg, a_mod, a_inW, a_niW, a_niD, decide_true, decide_false, nT2, nT3, nL0, nL1, a_eqB, a_eqS, a_neS, a_cell hx, q1, ix]
theorem loop_400 {x l : Nat} (nx : x ≠ p) (nl : l ≠ p) (nxl : x ≠ l) (nc : ce ≠ l) (hc : cs.length ≤ 40) : ∀ (vs : List V) (ps0 : List (List UInt8)) (B : Nat) (hp : Hp), Pen hp p ce cs B → B + vs.length ≤ 1000 → ps0.length + vs.length ≤ 1000 → hp[x]? = some (.cell (some (.ref p))) → hp[l]? = some (.list (ps0.map .bytes)) →
    ∃ ps hp', compGo (fun _ => True) (e2 idxV (eV (.seq 381)) (e1S (callV (orc n sc (k + 1))) (eV (.fn 395)) [(eCell (some x)), (eV (.int 24))])) (S "lap") l vs hp = some hp' ∧ ps.length = vs.length ∧ (∀ q ∈ ps, q ∈ pieces) ∧ hp'[l]? = some (.list ((ps0 ++ ps).map .bytes)) ∧ (∀ (i : Nat) y, i ≠ p → i ≠ l → hp[i]? = some y → hp'[i]? = some y) ∧ Pen hp' p ce cs (B + vs.length) := by
  intro vs
  induction vs with
  | nil =>
    intro ps0 B hp P hB hb hx hl
    exact ⟨[], hp, c_nil, rfl, fun q h => (List.not_mem_nil h).elim, by rw [List.append_nil]; exact hl, fun _ _ _ _ h => h, P⟩
  | cons v vs ih =>
    intro ps0 B hp P hB hb hx hl
    rw [List.length_cons] at hB hb
    obtain ⟨b, h1, q1, q2, q3, q4⟩ := piece_400 (n := n) (sc := sc) (k := k) (ls := bind1 (S "lap") v fun _ => none) P (by omega) hc hx
    have hl1 := q3 _ _ nl hl
    have s := St.set (o' := .list ((ps0 ++ [b]).map V.bytes)) hl1
    obtain ⟨ps, hp', x1, x2, x3, x4, x5, x6⟩ := ih (ps0 ++ [b]) (B + 1) _ (q4.kp s.kp (Ne.symm nl) nc) (by omega) (by rw [List.length_append, List.length_cons, List.length_nil]; omega) (s.keep _ _ nxl (q3 _ _ nx hx)) s.at_
    refine ⟨b :: ps, hp', ?_, by rw [List.length_cons, List.length_cons, x2], fun q h => ?_, ?_, fun i y hi hj g => x5 i y hi hj (s.keep i y hj (q3 i y hi g)), x6.le (by rw [List.length_cons]; omega)⟩
    · rw [c_step q1 hl1 (by rw [List.length_map]; omega), ← x1, List.map_append]
      rfl
    · rcases List.mem_cons.mp h with rfl | h
      · exact q2
      · exact x3 q h
    · rw [x4, List.append_assoc]; rfl
/-- a part -/
theorem sp_400 (P : Pen hp p ce cs B) (hB : B ≤ 900) (hc : cs.length ≤ 40) :
    ∃ ps hp', orc n sc (k + 2) 400 [.ref p] hp = some (.bytes (List.flatten ps), hp') ∧ ps.length ≤ 5 ∧ (∀ q ∈ ps, q ∈ pieces) ∧ Kp p hp hp' ∧ Pen hp' p ce cs (B + 6) := by
  rw [orc_cell rfl rfl rfl (den_400 _ _ _ hp.length)]
  have hl : List.lookup (Str.ofString "pen") [(Str.ofString "pen", V.ref p)].reverse = some (.ref p) := by
    rw [List.reverse_singleton, look_cons, if_pos rfl]
  rw [hl]
  have P0 := P.ext (Ext.push hp [O.cell (some (.ref p))])
  have hx := new_at hp (O.cell (some (.ref p)))
  have lp : p < hp.length := by obtain ⟨pl, g, h1, _⟩ := P; exact lt_of_at h1
  have lc : ce < hp.length := by obtain ⟨pl, g, h1, h2, _⟩ := P; exact lt_of_at h2
  have e0 := Ext.push hp [O.cell (some (.ref p))]
  have ll : (hp ++ [O.cell (some (V.ref p))]).length = hp.length + 1 := by rw [List.length_append]; rfl
  generalize hh : hp ++ [O.cell (some (V.ref p))] = h0 at P0 hx e0 ll
  generalize (fun y => if y = Str.ofString "pen" then none else List.lookup y [(Str.ofString "pen", V.ref p)].reverse) = L
  obtain ⟨r, h1, q1, q2, q3, q4⟩ := sp_395 (n := n) (sc := sc) (k := k) P0 (by omega) hc (many := 6) (by decide) (by decide)
  have hx1 := q3 _ _ (by omega) hx
  have lb := lt_of_at hx1
  obtain ⟨ps, h2, x1, x2, x3, x4, x5, x6⟩ := loop_400 (n := n) (sc := sc) (k := k) (x := hp.length) (l := h1.length) (p := p) (ce := ce) (by omega) (by omega) (by omega) (by omega) hc (((List.range r.toNat).map Int.ofNat).map V.int) [] (B + 1) (h1 ++ [O.list []]) (q4.ext (Ext.push _ _)) (by rw [List.length_map, List.length_map, List.length_range]; omega) (by rw [List.length_map, List.length_map, List.length_range]; simp; omega) (Ext.push _ _ _ _ hx1) (new_at _ _)
  rw [List.length_map, List.length_map, List.length_range] at x2 x6
  have cp : eCompR (e2 idxV (eV (.seq 381)) (e1S (callV (orc n sc (k + 1))) (eV (.fn 395)) [(eCell (some hp.length)), (eV (.int 24))])) (S "lap") [(e1S (callV (orc n sc (k + 1))) (eV (.fn 395)) [(eCell (some hp.length)), (eV (.int 6))])] L h0 = some (.ref h1.length, h2) := by
    refine a_eCompR (is := (List.range r.toNat).map Int.ofNat) (vs := [.int r]) ?_ ?_ x1
    · simp only [a_sAll0, a_sExpr, a_sAsg, a_sIf, a_sRet, a_sCont, a_sOne, a_eV, a_eLoc, a_e1, a_e2, a_eAll0, a_eAll1, a_eS, a_e1S, a_eIf, a_eTr, a_eAnd1, a_eAnd2, a_tNot, a_tAnd0, a_tAnd1, a_tOr0, a_tOr1, a_tOf, a_tCmp2, a_tCmp3, a_eMeth, a_eO0, a_eO1, a_eCut, a_callF, a_callB, a_methF, ls1, ls2, ls3, ls4, a_bind, S_inj, String.reduceEq, reduceIte, a_fin1, a_fin2, a_fin3, Bool.not_true, Bool.not_false, a_trB, a_lt, a_le, a_gt, a_ge, a_eq, a_ne, a_add, a_sub, a_neg, a_mod, a_inW, a_niW, a_niD, decide_true, decide_false, nT2, nT3, nL0, nL1, a_eqB, a_eqS, a_neS, a_cell hx, q1]
    · unfold rangeOf
      dsimp only
      rw [if_pos (by omega)]
  rw [List.nil_append] at x4
  have fl := flat_len ps x3
  have m1 : ∀ hp : Hp, methR (S "join") (.bytes []) hp = some .bjoin := fun hp => by
    unfold methR
    dsimp only
    rw [if_pos rfl]
  have m2 : methC (orc n sc (k + 1)) .bjoin (.bytes []) [.ref h1.length] h2 = some (.bytes ps.flatten, h2) := by
    unfold methC joiV
    dsimp only
    rw [x4]
    dsimp only
    rw [byteJoin_of]
    dsimp only
    rw [if_pos ⟨by rw [List.length_map]; omega, by omega⟩]
  refine ⟨ps, h2, ?_, by omega, x3, fun i y hi g => ?_, x6.le (by omega)⟩
  · show fin (sAll (body_400 (orc n sc (k + 1)) n sc hp.length) L h0) = _
    unfold body_400
    rw [a_sRet, a_eMeth, a_eV]
    dsimp only
    rw [m1]
    dsimp only
    rw [a_eAll1, cp]
    dsimp only
    rw [a_eAll0]
    dsimp only
    rw [m2]
    rfl
  · have g1 := q3 i y hi (e0 i y g)
    exact x5 i y hi (Nat.ne_of_lt (lt_of_at g1)) (Ext.push _ _ _ _ g1)
/-- the whites -/
theorem sp_388 : orc n sc (k + 1) 388 [] hp = some (.ref hp.length, hp ++ [.list (whites.map .bytes)]) := by
  rw [orc_def rfl rfl rfl (den_388 ..)]
  unfold body_388
  rw [a_sRet, a_eS]
  simp only [a_eAll0, a_eAll1, a_eV, a_newL, List.length_cons, List.length_nil, Nat.reduceAdd, Nat.reduceLeDiff, reduceIte]
  rfl
theorem white_of {ls : Ls} (P : Pen hp p ce cs B) (hB : B ≤ 1000) (hc : cs.length ≤ 40) (hp_ : ls (S "pen") = some (.ref p)) :
    ∃ b hp', e2 idxV (e1S (callV (orc n sc (k + 1))) (eV (.fn 388)) []) (e1S (callV (orc n sc (k + 1))) (eV (.fn 395)) [(eLoc (S "pen")), (eV (.int 6))]) ls hp = some (.bytes b, hp') ∧ b ∈ whites ∧ Kp p hp hp' ∧ Pen hp' p ce cs (B + 1) := by
  have lp : p < hp.length := by obtain ⟨pl, g, h1, _⟩ := P; exact lt_of_at h1
  obtain ⟨r, h1, q1, q2, q3, q4⟩ := sp_395 (n := n) (sc := sc) (k := k) (P.ext (Ext.push hp [.list (whites.map .bytes)])) hB hc (many := 6) (by decide) (by decide)
  have hl : whites.length = 6 := rfl
  have hr : r.toNat < whites.length := by omega
  have g := q3 _ _ (by omega) (new_at hp _)
  have ix : idxV (.ref hp.length) (.int r) h1 = some (.bytes whites[r.toNat], h1) := by
    obtain ⟨r', rfl⟩ : ∃ r' : Nat, r = (r' : Int) := ⟨r.toNat, by omega⟩
    have hr' : r' < whites.length := by omega
    exact a_idxL g (by rw [List.getElem?_map, List.getElem?_eq_getElem hr']; rfl) (by omega)
  refine ⟨whites[r.toNat], h1, ?_, List.getElem_mem _, (Ext.push hp _).kp.trans q3, q4⟩
  simp only [a_sAll0, a_sExpr, a_sAsg, a_sIf, a_sRet, a_sCont, a_sOne, a_eV, a_eLoc, a_e1, a_e2, a_eAll0, a_eAll1, a_eS, a_e1S, a_eIf, a_eTr, a_eAnd1, a_eAnd2, a_tNot, a_tAnd0, a_tAnd1, a_tOr0, a_tOr1, a_tOf, a_tCmp2, a_tCmp3, a_eMeth, a_eO0, a_eO1, a_eCut, a_callF, a_callB, a_methF, ls1, ls2, ls3, ls4, a_bind, S_inj, String.reduceEq, reduceIte, a_fin1, a_fin2, a_fin3, Bool.not_true, Bool.not_false, a_trB, a_lt, a_le, a_gt, a_ge, a_eq, a_ne, a_add, a_sub, a_neg, a_mod, a_inW, a_niW, a_niD, decide_true, decide_false, nT2, nT3, nL0, nL1, a_eqB, a_eqS, a_neS, sp_388, hp_, q1, ix]
end
end Mine

open PySem PySem.W PyProof.Rows PySem.Calls
set_option Elab.async false
set_option maxRecDepth 100000
set_option maxHeartbeats 1000000
set_option linter.all false
namespace Mine
theorem Wh.app {u v : List UInt8} (h : Wh u) (g : Wh v) : Wh (u ++ v) := by
  induction h with
  | nil => exact g
  | white x b hx _ ih => exact .white x _ hx ih
  | com y x b hy hx _ ih =>
    have := Wh.com y x (b ++ v) hy hx ih
    rw [List.append_assoc]
    exact this
theorem HN.app {u v : List UInt8} (h : HN u) (g : HN v) : HN (u ++ v) := by
  cases u with
  | nil => exact g
  | cons x u =>
    intro y w' q
    rw [List.cons_append] at q
    injection q with q1 q2
    exact q1 ▸ h x u rfl
theorem HN.left {u v : List UInt8} (h : HN (u ++ v)) : HN u := by
  cases u with
  | nil => exact fun _ _ q => by cases q
  | cons x u =>
    intro y w' q
    injection q with q1 q2
    exact q1 ▸ h x (u ++ v) rfl
theorem HN.of {x : UInt8} {u : List UInt8} (h : isR x = false) : HN (x :: u) := fun y w' q => by
  injection q with q1 q2
  exact q1 ▸ h
noncomputable def sh (m : Nat) (T : List (Tk × Nat)) : List (Tk × Nat) := T.map fun q => (q.1, q.2 + m)
theorem Toks.shift {a : Nat} {w : List UInt8} {T : List (Tk × Nat)} (m : Nat) (h : Toks a w T) : Toks (a + m) w (sh m T) := by
  induction h with
  | nil a b h => exact .nil _ _ h
  | cons a b t w tk T hb ht _ ih =>
    have := Toks.cons (a + m) b t w tk (sh m T) hb ht (by rw [show a + m + b.length + t.length = a + b.length + t.length + m by omega]; exact ih)
    rw [show a + m + b.length = a + b.length + m by omega] at this
    exact this
theorem Toks.white {v : List UInt8} (hv : Wh v) {a : Nat} {w : List UInt8} {T : List (Tk × Nat)} (h : Toks (a + v.length) w T) : Toks a (v ++ w) T := by
  cases h with
  | nil _ b h => exact .nil _ _ (hv.app h)
  | cons _ b t w tk T hb ht h =>
    have := Toks.cons a (v ++ b) t w tk T (hv.app hb) ht (by rw [List.length_append, ← Nat.add_assoc]; exact h)
    rw [List.append_assoc, List.length_append, ← Nat.add_assoc] at this
    exact this
theorem Toks.app {a : Nat} {u v w : List UInt8} {T1 T2 : List (Tk × Nat)} (h : Toks a u T1) (hv : Wh v) (hn : HN (v ++ w)) (g : Toks (a + u.length + v.length) w T2) : Toks a (u ++ (v ++ w)) (T1 ++ T2) := by
  induction h with
  | nil a b hb =>
    rw [← List.append_assoc]
    exact Toks.white (hb.app hv) (by rw [List.length_append, ← Nat.add_assoc]; exact g)
  | cons a b t u tk T hb ht _ ih =>
    rw [List.append_assoc, List.append_assoc]
    refine .cons a b t _ tk _ hb (ht.rest fun hu => hu.app hn) (ih ?_)
    rw [List.length_append, List.length_append] at g
    rw [show a + b.length + t.length + u.length + v.length = a + (b.length + (t.length + u.length)) + v.length by omega]
    exact g
/-- the text parted at a token -/
theorem Toks.part {a : Nat} {w : List UInt8} {T : List (Tk × Nat)} (h : Toks a w T) : ∀ (T1 : List (Tk × Nat)) (tk : Tk) (p : Nat) (T2 : List (Tk × Nat)), T = T1 ++ (tk, p) :: T2 → ∃ u w', w = u ++ w' ∧ p = a + u.length ∧ Toks a u T1 ∧ Toks p w' ((tk, p) :: T2) := by
  induction h with
  | nil a b hb => intro T1 tk p T2 e; cases T1 <;> cases e
  | cons a b t w tk0 T hb ht ht2 ih =>
    intro T1 tk p T2 e
    cases T1 with
    | nil =>
      rw [List.nil_append] at e
      injection e with e1 e2
      injection e1 with e3 e4
      subst e3 e4 e2
      exact ⟨b, t ++ w, rfl, rfl, .nil _ _ hb, .cons (a + b.length) [] t w _ _ .nil ht ht2⟩
    | cons x T1 =>
      rw [List.cons_append] at e
      injection e with e1 e2
      obtain ⟨u, w', q1, q2, q3, q4⟩ := ih T1 tk p T2 e2
      subst e1 q1
      refine ⟨b ++ (t ++ u), w', by simp only [List.append_assoc], by rw [q2]; simp only [List.length_append]; omega, .cons a b t u tk0 T1 hb (ht.rest HN.left) q3, q4⟩
/-- what a piece is -/
inductive Pc : List UInt8 → Prop
  | run (r : List UInt8) : r.all isP = true → r.length ≤ 5 → Pc r
  | name (r : List UInt8) : r.all isP = true → r.length ≤ 5 → Pc (47 :: r)
  | nameh : Pc [47, 65, 35, 52, 50]
  | tok (x : UInt8) (t : List UInt8) (tk : Tk) : isR x = false → (∀ w, Tok (x :: t) tk w) → Pc (x :: t)
  | blank (x : UInt8) (b : List UInt8) : isR x = false → Wh (x :: b) → Pc (x :: b)
theorem Pc.of {b : List UInt8} (h : b ∈ pieces) : Pc b := by
  unfold pieces at h
  simp only [List.mem_cons, List.not_mem_nil, or_false] at h
  rcases h with rfl | rfl | rfl | rfl | rfl | rfl | rfl | rfl | rfl | rfl | rfl | rfl | rfl | rfl | rfl | rfl | rfl | rfl | rfl | rfl | rfl | rfl | rfl | rfl
  · exact .run _ (by decide) (by decide)
  · exact .run _ (by decide) (by decide)
  · exact .name _ (by decide) (by decide)
  · exact .nameh
  · exact .name _ (by decide) (by decide)
  · exact .tok _ _ _ (by decide) .strA
  · exact .tok _ _ _ (by decide) .strB
  · exact .tok _ _ _ (by decide) .hexA
  · exact .tok _ _ _ (by decide) .hexB
  · exact .tok _ _ _ (by decide) .ll
  · exact .tok _ _ _ (by decide) .gg
  · exact .tok _ _ _ (by decide) fun w => .sg _ w (by decide)
  · exact .tok _ _ _ (by decide) fun w => .sg _ w (by decide)
  · exact .tok _ _ _ (by decide) fun w => .sg _ w (by decide)
  · exact .tok _ _ _ (by decide) fun w => .sg _ w (by decide)
  · exact .run _ (by decide) (by decide)
  · exact .run _ (by decide) (by decide)
  · exact .run _ (by decide) (by decide)
  · exact .blank _ _ (by decide) (.com [120] 10 [] (by decide) (.inl rfl) (.white _ _ (by decide) .nil))
  · exact .blank _ _ (by decide) (.com [41, 32, 60] 13 [] (by decide) (.inr rfl) (.white _ _ (by decide) .nil))
  · exact .blank _ _ (by decide) (.white _ _ (by decide) .nil)
  · exact .run _ (by decide) (by decide)
  · exact .run _ (by decide) (by decide)
  · exact .run _ (by decide) (by decide)
theorem run_toks {y w : List UInt8} (hy : y.all isP = true) (hl : y.length ≤ 60) (hw : HN w) (h : ∀ a, ∃ T, Toks a w T) (a : Nat) : ∃ T, Toks a (y ++ w) T := by
  cases y with
  | nil => exact h a
  | cons x ys =>
    obtain ⟨T, hT⟩ := h (a + ([] : List UInt8).length + (x :: ys).length)
    exact ⟨_, .cons a [] (x :: ys) w _ T .nil (.run x ys w (all_mono hy isP_R) hl hw) hT⟩
theorem flat_toks : ∀ (ps : List (List UInt8)), (∀ q ∈ ps, q ∈ pieces) → ps.length ≤ 10 → ∃ y w, ps.flatten = y ++ w ∧ y.all isP = true ∧ y.length ≤ 5 * ps.length ∧ HN w ∧ ∀ a, ∃ T, Toks a w T
  | [], _, _ => ⟨[], [], rfl, rfl, Nat.zero_le _, (fun _ _ q => by cases q), fun a => ⟨[], .nil a [] .nil⟩⟩
  | p :: ps, hp, hl => by
    rw [List.length_cons] at hl
    obtain ⟨y, w, e, h1, h2, h3, h4⟩ := flat_toks ps (fun q h => hp q (List.mem_cons_of_mem _ h)) (by omega)
    have hr := run_toks h1 (by omega) h3 h4
    have ef : (p :: ps).flatten = p ++ (y ++ w) := by rw [List.flatten_cons, e]
    rw [ef]
    cases Pc.of (hp p List.mem_cons_self) with
    | run r q1 q2 => exact ⟨p ++ y, w, by rw [List.append_assoc], by rw [List.all_append, q1, h1]; rfl, by rw [List.length_append, List.length_cons]; omega, h3, h4⟩
    | name r q1 q2 =>
      refine ⟨[], (47 :: r) ++ (y ++ w), rfl, rfl, Nat.zero_le _, HN.of (by decide), fun a => ?_⟩
      obtain ⟨T, hT⟩ := h4 (a + ([] : List UInt8).length + (47 :: (r ++ y)).length)
      have := Toks.cons a [] (47 :: (r ++ y)) w _ T .nil (.name (r ++ y) w (by rw [List.all_append, q1, h1]; rfl) (by rw [List.length_append]; omega) h3) hT
      rw [show 47 :: r ++ (y ++ w) = [] ++ (47 :: (r ++ y) ++ w) by simp only [List.nil_append, List.cons_append, List.append_assoc]]
      exact ⟨_, this⟩
    | nameh =>
      refine ⟨[], [47, 65, 35, 52, 50] ++ (y ++ w), rfl, rfl, Nat.zero_le _, HN.of (by decide), fun a => ?_⟩
      obtain ⟨T, hT⟩ := h4 (a + ([] : List UInt8).length + (47 :: 65 :: 35 :: 52 :: 50 :: y).length)
      exact ⟨_, Toks.cons a [] (47 :: 65 :: 35 :: 52 :: 50 :: y) w _ T .nil (.nameh y w h1 (by omega) h3) hT⟩
    | tok x t tk q1 q2 =>
      refine ⟨[], (x :: t) ++ (y ++ w), rfl, rfl, Nat.zero_le _, HN.of q1, fun a => ?_⟩
      obtain ⟨T, hT⟩ := hr (a + ([] : List UInt8).length + (x :: t).length)
      exact ⟨_, Toks.cons a [] (x :: t) (y ++ w) tk T .nil (q2 _) hT⟩
    | blank x b q1 q2 =>
      refine ⟨[], (x :: b) ++ (y ++ w), rfl, rfl, Nat.zero_le _, HN.of q1, fun a => ?_⟩
      obtain ⟨T, hT⟩ := hr (a + (x :: b).length)
      exact ⟨_, Toks.white q2 hT⟩
theorem part_toks {ps : List (List UInt8)} (h : ∀ q ∈ ps, q ∈ pieces) (hl : ps.length ≤ 5) (a : Nat) : ∃ T, Toks a ps.flatten T := by
  obtain ⟨y, w, e, h1, h2, h3, h4⟩ := flat_toks ps h (by omega)
  rw [e]
  exact run_toks h1 (by omega) h3 h4 a
/-- the whites -/
theorem whites_of {b : List UInt8} (h : b ∈ whites) : Wh b ∧ (∀ w, HN (b ++ w)) ∧ b.length ≤ 10 := by
  unfold whites at h
  simp only [List.mem_cons, List.not_mem_nil, or_false] at h
  rcases h with rfl | rfl | rfl | rfl | rfl | rfl
  · exact ⟨.white _ _ (by decide) .nil, fun w => HN.of (by decide), by decide⟩
  · exact ⟨.white _ _ (by decide) .nil, fun w => HN.of (by decide), by decide⟩
  · exact ⟨.white _ _ (by decide) (.white _ _ (by decide) .nil), fun w => HN.of (by decide), by decide⟩
  · exact ⟨.white _ _ (by decide) (.white _ _ (by decide) .nil), fun w => HN.of (by decide), by decide⟩
  · exact ⟨.white _ _ (by decide) (.com [32, 110, 111, 116, 101, 32, 40] 10 [] (by decide) (.inl rfl) (.white _ _ (by decide) .nil)), fun w => HN.of (by decide), by decide⟩
  · exact ⟨.white _ _ (by decide) (.white _ _ (by decide) (.white _ _ (by decide) .nil)), fun w => HN.of (by decide), by decide⟩
end Mine

open PySem PySem.W PyProof.Rows PySem.Calls
set_option Elab.async false
set_option maxRecDepth 100000
set_option maxHeartbeats 1000000
set_option linter.all false
namespace Mine
noncomputable def wdat : Tk → Dat
  | .raw _ b => .bytes b.toArray
  | .int i => .int i
  | .real t p => .tuple [.int t, .int (p : Int)]
  | .name l => .str ⟨l.toArray⟩
noncomputable def tdat (q : Tk × Int) : Dat := .tuple [.str (S q.1.kd), wdat q.1, .int q.2]
theorem wd_rd {hp : Hp} {u : V} {tk : Tk} (h : WdAt hp u tk) : RD hp 3 u (wdat tk) := by
  cases tk with
  | raw k b => obtain rfl := h; exact .bytes _ _
  | int i => obtain rfl := h; exact .int _ _
  | real t p =>
    obtain ⟨j, rfl, hj⟩ := h
    refine .tup 2 j _ _ hj rfl fun k x d h1 h2 => ?_
    rcases k with _ | _ | k
    · cases h1; cases h2; exact .int _ _
    · cases h1; cases h2; exact .int _ _
    · cases h1
  | name l => obtain rfl := h; exact .str _ _
theorem td_rd {hp : Hp} {v : V} {q : Tk × Int} (h : TdAt hp v q.1 q.2) : RD hp 4 v (tdat q) := by
  obtain ⟨i, u, rfl, h2, h3⟩ := h
  refine .tup 3 i _ _ h2 rfl fun k x d h1 h2 => ?_
  rcases k with _ | _ | _ | k
  · cases h1; cases h2; exact .str _ _
  · cases h1; cases h2; exact wd_rd h3
  · cases h1; cases h2; exact .int _ _
  · cases h1
theorem TdAts.get {hp : Hp} : ∀ {us : List V} {D : List (Tk × Int)}, TdAts hp us D → ∀ {i : Nat} {v : V} {q : Tk × Int}, us[i]? = some v → D[i]? = some q → TdAt hp v q.1 q.2
  | [], [], _, i, v, q, h1, _ => by cases h1
  | u :: us, d :: D, ⟨t1, t2⟩, i, v, q, h1, h2 => by
    cases i with
    | zero => cases h1; cases h2; exact t1
    | succ i => exact TdAts.get t2 h1 h2
  | [], _ :: _, t, _, _, _, _, _ => t.elim
  | _ :: _, [], t, _, _, _, _, _ => t.elim
theorem TdAts.rd {hp : Hp} {us : List V} {D : List (Tk × Int)} {i : Nat} (t : TdAts hp us D) (h : hp[i]? = some (.list us)) : RD hp 5 (.ref i) (.list (D.map tdat)) := by
  refine .lst 4 i us _ h (by rw [List.length_map, t.len]) fun k x d h1 h2 => ?_
  rw [List.getElem?_map] at h2
  obtain ⟨q, h3, rfl⟩ := Option.map_eq_some_iff.mp h2
  exact td_rd (t.get h1 h3)
theorem TL.same {hp : Hp} {f g : Nat} {D : List (Tk × Int)} (h : TL hp f D) (k : TL hp g D) : Same hp (.ref f) (.ref g) := by
  obtain ⟨us, h1, h2⟩ := h
  obtain ⟨vs, k1, k2⟩ := k
  exact ⟨_, h2.rd h1, k2.rd k1⟩
theorem TdAts.app {hp : Hp} : ∀ {us vs : List V} {D E : List (Tk × Int)}, TdAts hp us D → TdAts hp vs E → TdAts hp (us ++ vs) (D ++ E)
  | [], _, [], _, _, h => h
  | _ :: _, _, _ :: _, _, ⟨h1, h2⟩, h => ⟨h1, TdAts.app h2 h⟩
  | [], _, _ :: _, _, t, _ => t.elim
  | _ :: _, _, [], _, t, _ => t.elim
theorem TdAts.drop {hp : Hp} : ∀ (i : Nat) {us : List V} {D : List (Tk × Int)}, TdAts hp us D → TdAts hp (us.drop i) (D.drop i)
  | 0, _, _, h => h
  | _ + 1, [], [], _ => trivial
  | i + 1, _ :: _, _ :: _, ⟨_, h2⟩ => TdAts.drop i h2
  | _ + 1, [], _ :: _, t => t.elim
  | _ + 1, _ :: _, [], t => t.elim
theorem TdAts.take {hp : Hp} : ∀ (i : Nat) {us : List V} {D : List (Tk × Int)}, TdAts hp us D → TdAts hp (us.take i) (D.take i)
  | 0, _, _, _ => trivial
  | _ + 1, [], [], _ => trivial
  | i + 1, _ :: _, _ :: _, ⟨h1, h2⟩ => ⟨h1, TdAts.take i h2⟩
  | _ + 1, [], _ :: _, t => t.elim
  | _ + 1, _ :: _, [], t => t.elim
theorem TL.ext {hp hp' : Hp} {f : Nat} {D : List (Tk × Int)} (h : TL hp f D) (E : Ext hp hp') : TL hp' f D := by
  obtain ⟨us, h1, h2⟩ := h
  exact ⟨us, E _ _ h1, h2.keep fun i ys hy => E _ _ hy⟩
theorem TL.kp {hp hp' : Hp} {f p ce B : Nat} {cs : List Int} {D : List (Tk × Int)} (h : TL hp f D) (E : Kp p hp hp') (P : Pen hp p ce cs B) (ne : f ≠ p) : TL hp' f D := by
  obtain ⟨us, h1, h2⟩ := h
  obtain ⟨pl, g, q1, _⟩ := P
  refine ⟨us, E _ _ ne h1, h2.keep fun i ys hy => E _ _ (fun e => ?_) hy⟩
  subst e
  rw [q1] at hy
  cases hy
theorem mv_app (m : Int) (T U : List (Tk × Nat)) : mv m (T ++ U) = mv m T ++ mv m U := List.map_append
theorem mv_sh (m : Nat) (T : List (Tk × Nat)) : mv 0 (sh m T) = mv (m : Int) T := by
  unfold mv sh
  rw [List.map_map]
  congr 1
theorem mv_back (m : Nat) (T : List (Tk × Nat)) : mv (0 - (m : Int)) (sh m T) = mv 0 T := by
  unfold mv sh
  rw [List.map_map]
  congr 1
  funext q
  show (q.1, ((q.2 + m : Nat) : Int) + (0 - (m : Int))) = (q.1, (q.2 : Int) + 0)
  rw [Int.natCast_add]
  congr 1
  first | omega | done
theorem mv_get {m : Int} {T : List (Tk × Nat)} {i : Nat} {q : Tk × Nat} (h : T[i]? = some q) : (mv m T)[i]? = some (q.1, (q.2 : Int) + m) := by
  unfold mv
  rw [List.getElem?_map, h]
  rfl
section
variable {hp h1 h2 : Hp} {ls : Ls}
theorem if_same {x y : Ev} {b : Ex} {f g : Nat} (hx : x ls hp = some (.ref f, h1)) (hy : y ls h1 = some (.ref g, h2)) (hs : Same h2 (.ref f) (.ref g)) (es : List Ex) : sAll (sIf (tCmp2 (cmpV .NotEq) x y) b (sAll []) :: es) ls hp = sAll es ls h2 := by
  rw [a_sIf, a_tCmp2, hx]
  dsimp only
  rw [hy]
  dsimp only
  have : cmpV .NotEq (.ref f) (.ref g) h2 = some false := by
    unfold cmpV neV
    dsimp only
    rw [if_pos hs]
  rw [this]
  rfl
/-- the place of a token in the list -/
theorem place_of {bo i : Nat} {D : List (Tk × Int)} {q : Tk × Int} {be ie : Ev} (h : TL hp bo D) (hq : D[i]? = some q) (hb : be ls hp = some (.ref bo, hp)) (hi : ie ls hp = some (.int (i : Int), hp)) (hl : D.length ≤ 20000) :
    e2 idxV (e2 idxV be ie) (eV (.int 2)) ls hp = some (.int q.2, hp) := by
  obtain ⟨us, h1, h2⟩ := h
  have li : i < D.length := by
    rcases Nat.lt_or_ge i D.length with g | g
    · exact g
    · rw [List.getElem?_eq_none g] at hq; cases hq
  have lu : i < us.length := by rw [h2.len]; exact li
  obtain ⟨j, u, e1, e2', _⟩ := h2.get (List.getElem?_eq_getElem lu) hq
  have h3 : idxV (.ref bo) (.int (i : Int)) hp = some (.ref j, hp) := e1 ▸ a_idxL (i := i) h1 (List.getElem?_eq_getElem lu) (by omega)
  have h4 : idxV (.ref j) (.int 2) hp = some (.int q.2, hp) := a_idxT (i := 2) e2' rfl (by omega)
  simp only [a_e2, hb, hi, h3, a_eV, h4]
theorem cutL (sc : Addr × List Int) {i : Nat} {xs : List V} (h : hp[i]? = some (.list xs)) (x y : Option V) : cutV sc (.ref i) x y hp = match lowOf x, hiOf xs.length y with
      | some l, some u => if xs.length ≤ 1000000 then some (.ref hp.length, hp ++ [.list ((xs.take u).drop l)]) else none
      | _, _ => none := by
  unfold cutV
  cases x <;> (dsimp only; rw [h]; try rfl)
theorem cut_from {sc : Addr × List Int} {bo i : Nat} {D : List (Tk × Int)} {be ie : Ev} (h : TL hp bo D) (hb : be ls hp = some (.ref bo, hp)) (hi : ie ls hp = some (.int (i : Int), hp)) (hl : D.length ≤ 20000) (li : i ≤ 20000) :
    ∃ f hp', eCut sc be (some ie) none ls hp = some (.ref f, hp') ∧ Ext hp hp' ∧ TL hp' f (D.drop i) := by
  obtain ⟨us, h1, h2⟩ := h
  have hu := h2.len
  refine ⟨hp.length, hp ++ [.list ((us.take us.length).drop i)], ?_, Ext.push _ _, _, new_at _ _, ?_⟩
  · have hc : cutV sc (.ref bo) (some (.int (i : Int))) none hp = some (.ref hp.length, hp ++ [.list ((us.take us.length).drop i)]) := by
      rw [cutL sc h1, lowOf_at (by omega)]
      show (if us.length ≤ 1000000 then _ else _) = _
      rw [if_pos (by omega)]
    simp only [a_eCut, a_eO1, a_eO0, hb, hi, hc]
  · rw [List.take_length]
    exact (h2.drop i).keep fun i ys hy => Ext.push _ _ _ _ hy
theorem cut_mid {sc : Addr × List Int} {bo i j : Nat} {D : List (Tk × Int)} {be ie je : Ev} (h : TL hp bo D) (hb : be ls hp = some (.ref bo, hp)) (hi : ie ls hp = some (.int (i : Int), hp)) (hj : je ls hp = some (.int (j : Int), hp)) (hl : D.length ≤ 20000) (li : i ≤ 20000) (lj : j ≤ 20000) :
    ∃ f hp', eCut sc be (some ie) (some je) ls hp = some (.ref f, hp') ∧ Ext hp hp' ∧ TL hp' f ((D.take j).drop i) := by
  obtain ⟨us, h1, h2⟩ := h
  have hu := h2.len
  refine ⟨hp.length, hp ++ [.list ((us.take j).drop i)], ?_, Ext.push _ _, _, new_at _ _, ?_⟩
  · have hc : cutV sc (.ref bo) (some (.int (i : Int))) (some (.int (j : Int))) hp = some (.ref hp.length, hp ++ [.list ((us.take j).drop i)]) := by
      rw [cutL sc h1, lowOf_at (by omega), hiOf_at (by omega)]
      show (if us.length ≤ 1000000 then _ else _) = _
      rw [if_pos (by omega)]
    simp only [a_eCut, a_eO1, hb, hi, hj, hc]
  · exact ((h2.take j).drop i).keep fun i ys hy => Ext.push _ _ _ _ hy
end
end Mine

open PySem PySem.W PyProof.Rows PySem.Calls
set_option Elab.async false
set_option maxRecDepth 100000
set_option maxHeartbeats 1000000
set_option linter.all false
namespace Mine
noncomputable def toldE (C : Orc) (args : List Ev) (me : Ev) : Ev := e1S (callV C) (eV (.fn 407)) [e1S (callV C) (eV (.fn 380)) [e1S (callV C) (eV (.fn 187)) args], me]
theorem get_split {α : Type} : ∀ {T : List α} {i : Nat} {q : α}, T[i]? = some q → T = T.take i ++ q :: T.drop (i + 1) ∧ T.drop i = q :: T.drop (i + 1)
  | [], _, _, h => by cases h
  | x :: T, 0, q, h => by cases h; exact ⟨rfl, rfl⟩
  | x :: T, i + 1, q, h => by
    obtain ⟨h1, h2⟩ := get_split (T := T) (i := i) h
    exact ⟨congrArg (x :: ·) h1, h2⟩
theorem Win.of {u v w : List UInt8} (h : (u ++ (v ++ w)).length ≤ 10000) : Win (u ++ (v ++ w)) u.length (u.length + v.length) v := by
  refine ⟨?_, by simp only [List.length_append]; omega, h, Nat.le_add_right _ _⟩
  rw [← List.append_assoc, List.take_left' (by rw [List.length_append]), List.drop_left]
theorem Win.end (u v : List UInt8) (h : (u ++ v).length ≤ 10000) : Win (u ++ v) u.length (u ++ v).length v := by
  have := Win.of (u := u) (v := v) (w := []) (by rw [List.append_nil]; exact h)
  rw [List.append_nil, ← List.length_append] at this
  exact this
theorem Win.all (d : List UInt8) (h : d.length ≤ 10000) : Win d 0 d.length d := Win.end [] d h
section
variable {n : Nat} {l : Addr} {ns : List Int} {hp : Hp} {ls : Ls} {d one wh : List UInt8} {T : List (Tk × Nat)}
theorem len_b {C : Orc} {b : List UInt8} {x : Str} (h : ls x = some (.bytes b)) (hl : b.length ≤ 10000) (hp : Hp) : e1S (callV C) (eV (.bi .len)) [eLoc x] ls hp = some (.int (b.length : Int), hp) := by
  simp only [a_e1S, a_eV, a_eAll1, a_eAll0, a_eLoc, h, a_callB, a_lenB hp b (by omega)]
theorem told_a {ae me : Ev} {m : Int} (hn : 20000 ≤ n) (hd : d.length ≤ 5000) (K : Toks 0 d T) (ha : ae ls hp = some (.bytes d, hp)) (hm : ∀ hp', me ls hp' = some (.int m, hp')) :
    ∃ f hp', toldE (orc n (l, ns) 12) [ae] me ls hp = some (.ref f, hp') ∧ Ext hp hp' ∧ TL hp' f (mv m T) ∧ hp.length ≤ f := by
  have q := sp_187a (n := n) (sc := (l, ns)) (k := 10) (d := d) (hp := hp) (by omega)
  exact told_of (k := 5) (a := 0) (e := d.length) (vs := [.bytes d]) hn q K (Win.all d (by omega)) (by simp only [a_eAll1, a_eAll0, ha]) hm
theorem told_b {ae pe me : Ev} {m : Int} {i : Nat} {q : Tk × Nat} (hn : 20000 ≤ n) (hd : d.length ≤ 5000) (K : Toks 0 d T) (hq : T[i]? = some q) (ha : ae ls hp = some (.bytes d, hp)) (hp_ : pe ls hp = some (.int (q.2 : Int), hp)) (hm : ∀ hp', me ls hp' = some (.int m, hp')) :
    ∃ f hp', toldE (orc n (l, ns) 12) [ae, pe] me ls hp = some (.ref f, hp') ∧ Ext hp hp' ∧ TL hp' f (mv m (T.drop i)) ∧ hp.length ≤ f := by
  obtain ⟨s1, s2⟩ := get_split hq
  obtain ⟨u, w', rfl, e2', _, K2⟩ := K.part _ _ _ _ s1
  rw [Nat.zero_add] at e2'
  have h1 := sp_187b (n := n) (sc := (l, ns)) (k := 10) (d := u ++ w') (a := (q.2 : Int)) (hp := hp) (by omega)
  rw [s2]
  exact told_of (k := 5) (a := q.2) (e := (u ++ w').length) (vs := [.bytes (u ++ w'), .int (q.2 : Int)]) hn h1 K2 (e2' ▸ Win.end u w' (by omega)) (by simp only [a_eAll1, a_eAll0, ha, hp_]) hm
theorem told_c {ae pe ee me : Ev} {m : Int} {i j : Nat} {q r : Tk × Nat} (hn : 20000 ≤ n) (hd : d.length ≤ 5000) (K : Toks 0 d T) (hq : T[i]? = some q) (ij : i ≤ j) (hr : T[j]? = some r) (ha : ae ls hp = some (.bytes d, hp)) (hp_ : pe ls hp = some (.int (q.2 : Int), hp)) (he : ee ls hp = some (.int (r.2 : Int), hp)) (hm : ∀ hp', me ls hp' = some (.int m, hp')) :
    ∃ f hp', toldE (orc n (l, ns) 12) [ae, pe, ee] me ls hp = some (.ref f, hp') ∧ Ext hp hp' ∧ TL hp' f (mv m ((T.take j).drop i)) ∧ hp.length ≤ f := by
  obtain ⟨s1, s2⟩ := get_split hq
  obtain ⟨u, w', rfl, e2', _, K2⟩ := K.part _ _ _ _ s1
  rw [Nat.zero_add] at e2'
  have hr2 : (T.drop i)[j - i]? = some r := by rw [List.getElem?_drop, show i + (j - i) = j by omega]; exact hr
  rw [← s2] at K2
  obtain ⟨s3, s4⟩ := get_split hr2
  obtain ⟨v, w, rfl, e3, K3, _⟩ := K2.part _ _ _ _ s3
  have el : r.2 ≤ (u ++ (v ++ w)).length := by
    show r.2 ≤ _
    rw [e3, e2']
    simp only [List.length_append]
    omega
  have h1 := sp_187c (n := n) (sc := (l, ns)) (k := 10) (d := u ++ (v ++ w)) (a := (q.2 : Int)) (e := r.2) (hp := hp) (by omega) el
  rw [List.take_drop, show i + (j - i) = j by omega] at K3
  have W : Win (u ++ (v ++ w)) q.2 r.2 v := by
    show Win _ _ r.2 _
    rw [e3, e2']
    exact Win.of (by omega)
  exact told_of (k := 5) (a := q.2) (e := r.2) (vs := [.bytes (u ++ (v ++ w)), .int (q.2 : Int), .int (r.2 : Int)]) hn h1 K3 W (by simp only [a_eAll1, a_eAll0, ha, hp_, he]) hm
end
end Mine

open PySem PySem.W PyProof.Rows PySem.Calls
set_option Elab.async false
set_option maxRecDepth 100000
set_option maxHeartbeats 1000000
set_option linter.all false
namespace Mine
theorem asg_step {x : Str} {e : Ev} {es : List Ex} {ls : Ls} {hp h1 : Hp} {v : V} (h : e ls hp = some (v, h1)) : sAll (sAsg x e :: es) ls hp = sAll es (bind1 x v ls) h1 := by
  rw [a_sAsg, h]
theorem a_sForR {x : Str} {args : List Ev} {b : Ex} {ls : Ls} {hp h1 : Hp} {vs : List V} {is : List Int} (h : eAll args ls hp = some (vs, h1)) (hr : rangeOf vs = some is) (es : List Ex) : sAll (sForR x args b :: es) ls hp = andThen es (sTurns (fun _ => True) (bdName x) b (is.map .int) ls h1) := by
  show (match sForR x args b ls hp with | some (.next, l1, h1) => sAll es l1 h1 | r => r) = _
  unfold sForR
  rw [h]
  dsimp only
  rw [hr]
  dsimp only
  generalize sTurns (fun _ => True) (bdName x) b (is.map .int) ls h1 = r
  rcases r with _ | ⟨f, x, y⟩
  · rfl
  · cases f <;> rfl
/-- the law's names, all made -/
structure LF (ls : Ls) (p bo : Nat) (d one wh : List UInt8) : Prop where
  pen : ls (S "pen") = some (.ref p)
  both : ls (S "both") = some (.ref bo)
  data : ls (S "data") = some (.bytes d)
  one : ls (S "one") = some (.bytes one)
  white : ls (S "white") = some (.bytes wh)
section
variable {n : Nat} {l : Addr} {ns : List Int} {hp : Hp} {ls : Ls} {d one wh : List UInt8} {T : List (Tk × Nat)} {p bo ce B : Nat} {cs : List Int}
theorem LF.bind {x : String} {v : V} (F : LF ls p bo d one wh) (h : "pen" ≠ x ∧ "both" ≠ x ∧ "data" ≠ x ∧ "one" ≠ x ∧ "white" ≠ x) : LF (bind1 (S x) v ls) p bo d one wh :=
  ⟨(bind_ne h.1).trans F.pen, (bind_ne h.2.1).trans F.both, (bind_ne h.2.2.1).trans F.data, (bind_ne h.2.2.2.1).trans F.one, (bind_ne h.2.2.2.2).trans F.white⟩
theorem len_both {C : Orc} {D : List (Tk × Int)} (h : TL hp bo D) (hb : ls (S "both") = some (.ref bo)) (hl : D.length ≤ 20000) : EvI (e1S (callV C) (eV (.bi .len)) [(eLoc (S "both"))]) ls hp (D.length : Int) := by
  obtain ⟨us, h1, h2⟩ := h
  have hu := h2.len
  have e1 := a_lenL hp h1 (by omega)
  rw [hu] at e1
  show _ = _
  simp only [a_e1S, a_eV, a_eAll1, a_eAll0, a_eLoc, hb, a_callB, e1]
theorem mv_len (m : Int) (T : List (Tk × Nat)) : (mv m T).length = T.length := List.length_map _
theorem mv_place {hp : Hp} {ls : Ls} {bo i : Nat} {T : List (Tk × Nat)} {q : Tk × Nat} {ie : Ev} (h : TL hp bo (mv 0 T)) (hq : T[i]? = some q) (hb : ls (S "both") = some (.ref bo)) (hi : ie ls hp = some (.int (i : Int), hp)) (hl : T.length ≤ 20000) :
    e2 idxV (e2 idxV (eLoc (S "both")) ie) (eV (.int 2)) ls hp = some (.int (q.2 : Int), hp) := by
  have := place_of (ls := ls) h (mv_get hq) (be := eLoc (S "both")) (ie := ie) (by rw [a_eLoc, hb]) hi (by rw [mv_len]; exact hl)
  rw [this]
  show some (V.int ((q.2 : Int) + 0), hp) = _
  rw [Int.add_zero]
/-- one turn: read anew from a token's place -/
theorem turn_B {i : Nat} (hn : 20000 ≤ n) (hd : d.length ≤ 5000) (K : Toks 0 d T) (F : LF ls p bo d one wh) (H : TL hp bo (mv 0 T)) (hi : i < T.length) (li : ls (S "index") = some (.int (i : Int))) :
    ∃ hp', sAll [(sIf (tCmp2 (cmpV .NotEq) (toldE (orc n (l, ns) 12) [(eLoc (S "data")), (e2 idxV (e2 idxV (eLoc (S "both")) (eLoc (S "index"))) (eV (.int 2)))] (eV (.int 0))) (eCut (l, ns) (eLoc (S "both")) (some (eLoc (S "index"))) none)) (sAll [(sRet (eV (.bool false)))]) (sAll []))] ls hp = some (.next, ls, hp') ∧ Ext hp hp' := by
  have kl := K.len
  have hq := List.getElem?_eq_getElem hi
  obtain ⟨f, h1, q1, x1, t1, _⟩ := told_b (l := l) (ns := ns) (ls := ls) (me := eV (.int 0)) (m := 0) hn hd K hq (ae := eLoc (S "data")) (by rw [a_eLoc, F.data]) (mv_place (ie := eLoc (S "index")) H hq F.both (by rw [a_eLoc, li]) (by omega)) (fun _ => rfl)
  obtain ⟨g, h2, q2, x2, t2⟩ := cut_from (sc := (l, ns)) (ls := ls) (be := eLoc (S "both")) (ie := eLoc (S "index")) (i := i) (H.ext x1) (by rw [a_eLoc, F.both]) (by rw [a_eLoc, li]) (by rw [mv_len]; omega) (by omega)
  refine ⟨h2, ?_, x1.trans x2⟩
  rw [if_same q1 q2 ?_, a_sAll0]
  refine (t1.ext x2).same ?_
  unfold mv at t2 ⊢
  rw [List.map_drop]
  exact t2
theorem loop_B (hn : 20000 ≤ n) (hd : d.length ≤ 5000) (K : Toks 0 d T) : ∀ (is : List Nat) (ls : Ls) (hp : Hp), (∀ i ∈ is, i < T.length) → LF ls p bo d one wh → TL hp bo (mv 0 T) →
    ∃ ls' hp', sTurns (fun _ => True) (bdName (S "index")) (sAll [(sIf (tCmp2 (cmpV .NotEq) (toldE (orc n (l, ns) 12) [(eLoc (S "data")), (e2 idxV (e2 idxV (eLoc (S "both")) (eLoc (S "index"))) (eV (.int 2)))] (eV (.int 0))) (eCut (l, ns) (eLoc (S "both")) (some (eLoc (S "index"))) none)) (sAll [(sRet (eV (.bool false)))]) (sAll []))]) ((is.map Int.ofNat).map .int) ls hp = some (.next, ls', hp') ∧ LF ls' p bo d one wh ∧ Ext hp hp'
  | [], ls, hp, _, F, _ => ⟨ls, hp, t_nil, F, Ext.refl _⟩
  | i :: is, ls, hp, hi, F, H => by
    have F2 : LF (bind1 (S "index") (.int (i : Int)) ls) p bo d one wh := F.bind (by decide)
    obtain ⟨h1, q1, x1⟩ := turn_B (l := l) (ns := ns) hn hd K F2 H (hi i List.mem_cons_self) (if_pos rfl)
    obtain ⟨ls', hp', q2, F', x2⟩ := loop_B hn hd K is _ h1 (fun j hj => hi j (List.mem_cons_of_mem _ hj)) F2 (H.ext x1)
    exact ⟨ls', hp', (t_step (l1 := bind1 (S "index") (.int (i : Int)) ls) rfl q1).trans q2, F', x1.trans x2⟩
/-- the for -/
theorem for_B {es : List Ex} (hn : 20000 ≤ n) (hd : d.length ≤ 5000) (K : Toks 0 d T) (F : LF ls p bo d one wh) (H : TL hp bo (mv 0 T)) :
    ∃ ls' hp', sAll (sForR (S "index") [(e1S (callV (orc n (l, ns) 12)) (eV (.bi .len)) [(eLoc (S "both"))])] (sAll [(sIf (tCmp2 (cmpV .NotEq) (toldE (orc n (l, ns) 12) [(eLoc (S "data")), (e2 idxV (e2 idxV (eLoc (S "both")) (eLoc (S "index"))) (eV (.int 2)))] (eV (.int 0))) (eCut (l, ns) (eLoc (S "both")) (some (eLoc (S "index"))) none)) (sAll [(sRet (eV (.bool false)))]) (sAll []))]) :: es) ls hp = sAll es ls' hp' ∧ LF ls' p bo d one wh ∧ Ext hp hp' := by
  have kl := K.len
  have ln := len_both (C := orc n (l, ns) 12) H F.both (by rw [mv_len]; omega)
  rw [mv_len] at ln
  have rg : rangeOf [.int (T.length : Int)] = some ((List.range T.length).map Int.ofNat) := by
    unfold rangeOf
    dsimp only
    rw [if_pos (by omega), Int.toNat_natCast]
  obtain ⟨ls', hp', q, F', x⟩ := loop_B (l := l) (ns := ns) hn hd K (List.range T.length) ls hp (fun i hi => List.mem_range.mp hi) F H
  refine ⟨ls', hp', ?_, F', x⟩
  rw [a_sForR (h1 := hp) (by rw [a_eAll1, ln]; rfl) rg, q, a_then0]
/-- the last if -/
theorem if_C {es : List Ex} (hn : 20000 ≤ n) (hd : d.length ≤ 900) (K : Toks 0 d T) (F : LF ls p bo d one wh) (H : TL hp bo (mv 0 T)) (P : Pen hp p ce cs B) (hB : B ≤ 900) (hc : cs.length ≤ 40) (ne : bo ≠ p) :
    ∃ ls' hp', sAll (sIf (tOf (eLoc (S "both")) trV) (sAll [(sAsg (S "begin") (e1S (callV (orc n (l, ns) 12)) (eV (.fn 395)) [(eLoc (S "pen")), (e1S (callV (orc n (l, ns) 12)) (eV (.bi .len)) [(eLoc (S "both"))])])),
    (sAsg (S "end") (e2 (binV .Add) (eLoc (S "begin")) (e1S (callV (orc n (l, ns) 12)) (eV (.fn 395)) [(eLoc (S "pen")), (e2 (binV .Sub) (e1S (callV (orc n (l, ns) 12)) (eV (.bi .len)) [(eLoc (S "both"))]) (eLoc (S "begin")))]))),
    (sIf (tCmp2 (cmpV .NotEq) (toldE (orc n (l, ns) 12) [(eLoc (S "data")), (e2 idxV (e2 idxV (eLoc (S "both")) (eLoc (S "begin"))) (eV (.int 2))), (e2 idxV (e2 idxV (eLoc (S "both")) (eLoc (S "end"))) (eV (.int 2)))] (eV (.int 0))) (eCut (l, ns) (eLoc (S "both")) (some (eLoc (S "begin"))) (some (eLoc (S "end"))))) (sAll [(sRet (eV (.bool false)))]) (sAll []))]) (sAll []) :: es) ls hp = sAll es ls' hp' ∧ LF ls' p bo d one wh := by
  have kl := K.len
  have tr : tOf (eLoc (S "both")) trV ls hp = some (!T.isEmpty, hp) := by
    obtain ⟨us, h1, h2⟩ := H
    have hu := h2.len
    rw [mv_len] at hu
    have : trV (.ref bo) hp = some (!us.isEmpty) := by
      unfold trV
      dsimp only
      rw [h1]
      dsimp only
      rw [if_pos (by omega)]
    have e : us.isEmpty = T.isEmpty := by
      cases us <;> cases T <;> first | rfl | (simp at hu)
    simp only [a_tOf, a_eLoc, F.both, this, e]
  rw [a_sIf, tr]
  by_cases hT : T.length = 0
  · have : T = [] := List.eq_nil_of_length_eq_zero hT
    subst this
    exact ⟨ls, hp, rfl, F⟩
  have he : T.isEmpty = false := by
    cases T with
    | nil => exact absurd rfl hT
    | cons => rfl
  rw [he]
  have ln := len_both (C := orc n (l, ns) 12) H F.both (by rw [mv_len]; omega)
  rw [mv_len] at ln
  obtain ⟨r, h1, q1, r1, k1, P1⟩ := sp_395 (n := n) (sc := (l, ns)) (k := 11) P (by omega) hc (many := (T.length : Int)) (by omega) (by omega)
  obtain ⟨i, rfl⟩ : ∃ i : Nat, r = (i : Int) := ⟨r.toNat, by omega⟩
  have F1 : LF (bind1 (S "begin") (.int (i : Int)) ls) p bo d one wh := F.bind (by decide)
  have lb1 : bind1 (S "begin") (.int (i : Int)) ls (S "begin") = some (.int (i : Int)) := if_pos rfl
  have s1 : e1S (callV (orc n (l, ns) 12)) (eV (.fn 395)) [(eLoc (S "pen")), (e1S (callV (orc n (l, ns) 12)) (eV (.bi .len)) [(eLoc (S "both"))])] ls hp = some (.int (i : Int), h1) := by
    have lnq : e1S (callV (orc n (l, ns) 12)) (eV (.bi .len)) [(eLoc (S "both"))] ls hp = _ := ln
    rw [a_e1S, a_eV]
    simp only [a_eAll1, a_eAll0, a_eLoc, F.pen, lnq]
    exact q1
  generalize hL1 : bind1 (S "begin") (.int (i : Int)) ls = L1 at F1 lb1
  have H1 := H.kp k1 P ne
  have ln1 := len_both (C := orc n (l, ns) 12) H1 F1.both (by rw [mv_len]; omega)
  rw [mv_len] at ln1
  have sb1 : EvI (e2 (binV .Sub) (e1S (callV (orc n (l, ns) 12)) (eV (.bi .len)) [(eLoc (S "both"))]) (eLoc (S "begin"))) L1 h1 ((T.length : Int) - (i : Int)) := i_sub ln1 (i_loc lb1)
  obtain ⟨r, h2, q2, r2, k2, P2⟩ := sp_395 (n := n) (sc := (l, ns)) (k := 11) P1 (by omega) hc (many := (T.length : Int) - (i : Int)) (by omega) (by omega)
  obtain ⟨z, rfl⟩ : ∃ z : Nat, r = (z : Int) := ⟨r.toNat, by omega⟩
  have s2 : e2 (binV .Add) (eLoc (S "begin")) (e1S (callV (orc n (l, ns) 12)) (eV (.fn 395)) [(eLoc (S "pen")), (e2 (binV .Sub) (e1S (callV (orc n (l, ns) 12)) (eV (.bi .len)) [(eLoc (S "both"))]) (eLoc (S "begin")))]) L1 h1 = some (.int ((i + z : Nat) : Int), h2) := by
    have sbq : e2 (binV .Sub) (e1S (callV (orc n (l, ns) 12)) (eV (.bi .len)) [(eLoc (S "both"))]) (eLoc (S "begin")) L1 h1 = _ := sb1
    have cq : e1S (callV (orc n (l, ns) 12)) (eV (.fn 395)) [(eLoc (S "pen")), (e2 (binV .Sub) (e1S (callV (orc n (l, ns) 12)) (eV (.bi .len)) [(eLoc (S "both"))]) (eLoc (S "begin")))] L1 h1 = some (.int (z : Int), h2) := by
      rw [a_e1S, a_eV]
      simp only [a_eAll1, a_eAll0, a_eLoc, F1.pen, sbq]
      exact q2
    simp only [a_e2, a_eLoc, lb1, cq]
    rfl
  have F2 : LF (bind1 (S "end") (.int ((i + z : Nat) : Int)) L1) p bo d one wh := F1.bind (by decide)
  have lb2 : bind1 (S "end") (.int ((i + z : Nat) : Int)) L1 (S "begin") = some (.int (i : Int)) := by rw [bind_ne (by decide)]; exact lb1
  have le2 : bind1 (S "end") (.int ((i + z : Nat) : Int)) L1 (S "end") = some (.int ((i + z : Nat) : Int)) := if_pos rfl
  generalize hL2 : bind1 (S "end") (.int ((i + z : Nat) : Int)) L1 = L2 at F2 lb2 le2
  have H2 := H1.kp k2 P1 ne
  have hq := List.getElem?_eq_getElem (l := T) (i := i) (by omega)
  have hr := List.getElem?_eq_getElem (l := T) (i := i + z) (by omega)
  obtain ⟨f, h3, q3, x3, t3, _⟩ := told_c (l := l) (ns := ns) (ls := L2) (me := eV (.int 0)) (m := 0) hn (by omega) K hq (Nat.le_add_right i z) hr (ae := eLoc (S "data")) (by rw [a_eLoc, F2.data]) (mv_place (ie := eLoc (S "begin")) H2 hq F2.both (by rw [a_eLoc, lb2]) (by omega)) (mv_place (ie := eLoc (S "end")) H2 hr F2.both (by rw [a_eLoc, le2]) (by omega)) (fun _ => rfl)
  obtain ⟨g, h4, q4, x4, t4⟩ := cut_mid (sc := (l, ns)) (ls := L2) (be := eLoc (S "both")) (ie := eLoc (S "begin")) (je := eLoc (S "end")) (i := i) (j := i + z) (H2.ext x3) (by rw [a_eLoc, F2.both]) (by rw [a_eLoc, lb2]) (by rw [a_eLoc, le2]) (by rw [mv_len]; omega) (by omega) (by omega)
  refine ⟨L2, h4, ?_, F2⟩
  have hs : Same h4 (.ref f) (.ref g) := by
    refine (t3.ext x4).same ?_
    unfold mv at t4 ⊢
    rw [List.map_drop, List.map_take]
    exact t4
  show andThen es (sAll _ ls hp) = _
  rw [asg_step s1, hL1, asg_step s2, hL2, if_same q3 q4 hs, a_sAll0, a_then0]
/-- the return -/
theorem ret_D (hn : 20000 ≤ n) (hw : Wh wh) (F : LF ls p bo d one wh) (hd : d.length ≤ 5000) {w' : List UInt8} (hdd : d = one ++ (wh ++ w')) :
    ∃ hp', fin (sAll [(sRet (eTr (tCmp2 (cmpV .Eq) (e1S (callV (orc n (l, ns) 12)) (eV (.fn 380)) [(e1S (callV (orc n (l, ns) 12)) (eV (.fn 187)) [(eLoc (S "data")), (e1S (callV (orc n (l, ns) 12)) (eV (.bi .len)) [(eLoc (S "one"))]), (e2 (binV .Add) (e1S (callV (orc n (l, ns) 12)) (eV (.bi .len)) [(eLoc (S "one"))]) (e1S (callV (orc n (l, ns) 12)) (eV (.bi .len)) [(eLoc (S "white"))]))])]) (eS (newO .list) []))))] ls hp) = some (.bool true, hp') := by
  have hl := congrArg List.length hdd
  simp only [List.length_append] at hl
  have l1 := len_b (C := orc n (l, ns) 12) F.one (by omega) hp
  have l2 := len_b (C := orc n (l, ns) 12) F.white (by omega) hp
  have ad : e2 (binV .Add) (e1S (callV (orc n (l, ns) 12)) (eV (.bi .len)) [(eLoc (S "one"))]) (e1S (callV (orc n (l, ns) 12)) (eV (.bi .len)) [(eLoc (S "white"))]) ls hp = some (.int ((one.length + wh.length : Nat) : Int), hp) := i_add l1 l2
  have c1 : orc n (l, ns) 12 187 [.bytes d, .int (one.length : Int), .int ((one.length + wh.length : Nat) : Int)] hp = some (.ref hp.length, hp ++ [cur d (one.length : Int) ((one.length + wh.length : Nat) : Int)]) := sp_187c (k := 10) (by omega) (by omega)
  have W : Win d one.length (one.length + wh.length) wh := by
    rw [hdd]
    exact Win.of (by rw [← hdd]; omega)
  obtain ⟨f, h2, vs, a', q1, q2, q3, _, _⟩ := sp_380 (n := n) (sc := (l, ns)) (k := 5) (Toks.nil one.length wh hw) (new_at hp _) W hn
  have q1' : orc n (l, ns) 12 380 [.ref hp.length] (hp ++ [cur d (one.length : Int) ((one.length + wh.length : Nat) : Int)]) = some (.ref f, h2) := q1
  have hv : vs = [] := List.eq_nil_of_length_eq_zero q3.len
  subst hv
  have hs : Same (h2 ++ [O.list []]) (.ref f) (.ref h2.length) := TL.same (D := []) ⟨[], Ext.push _ _ _ _ q2, trivial⟩ ⟨[], new_at _ _, trivial⟩
  have ce : cmpV .Eq (.ref f) (.ref h2.length) (h2 ++ [O.list []]) = some true := by
    unfold cmpV eqV
    dsimp only
    rw [if_pos hs]
  have ax : eAll [(eLoc (S "data")), (e1S (callV (orc n (l, ns) 12)) (eV (.bi .len)) [(eLoc (S "one"))]), (e2 (binV .Add) (e1S (callV (orc n (l, ns) 12)) (eV (.bi .len)) [(eLoc (S "one"))]) (e1S (callV (orc n (l, ns) 12)) (eV (.bi .len)) [(eLoc (S "white"))]))] ls hp = some ([.bytes d, .int (one.length : Int), .int ((one.length + wh.length : Nat) : Int)], hp) := by
    rw [a_eAll1, a_eLoc, F.data]
    dsimp only
    rw [a_eAll1, l1]
    dsimp only
    rw [a_eAll1, ad]
    rfl
  have cx : e1S (callV (orc n (l, ns) 12)) (eV (.fn 187)) [(eLoc (S "data")), (e1S (callV (orc n (l, ns) 12)) (eV (.bi .len)) [(eLoc (S "one"))]), (e2 (binV .Add) (e1S (callV (orc n (l, ns) 12)) (eV (.bi .len)) [(eLoc (S "one"))]) (e1S (callV (orc n (l, ns) 12)) (eV (.bi .len)) [(eLoc (S "white"))]))] ls hp = some (.ref hp.length, hp ++ [cur d (one.length : Int) ((one.length + wh.length : Nat) : Int)]) := by
    rw [a_e1S, a_eV]
    dsimp only
    rw [ax]
    exact c1
  refine ⟨h2 ++ [O.list []], ?_⟩
  rw [a_sRet, a_eTr, a_tCmp2, a_e1S, a_eV]
  dsimp only
  rw [a_eAll1, cx]
  dsimp only
  rw [a_eAll0]
  dsimp only
  rw [a_callF, q1']
  dsimp only
  rw [a_eS, a_eAll0]
  dsimp only
  rw [nL0]
  dsimp only
  rw [ce]
  rfl
end
end Mine

open PySem PySem.W PyProof.Rows PySem.Calls
set_option Elab.async false
set_option maxRecDepth 100000
set_option maxHeartbeats 1000000
set_option linter.all false
namespace Mine
theorem cc_nil {chk : Hp → Prop} {e : Ev} {x : Str} {l : Nat} {hp : Hp} (hk : chk hp) : compGo chk e x l [] hp = some hp := by
  rw [compGo, if_pos hk]
theorem cc_step {chk : Hp → Prop} {e : Ev} {x : Str} {l : Nat} {v u : V} {vs xs : List V} {hp h1 : Hp} (hk : chk hp) (h : e (bind1 x v fun _ => none) hp = some (u, h1)) (hl : h1[l]? = some (.list xs)) (hx : xs.length ≤ 1000000) : compGo chk e x l (v :: vs) hp = compGo chk e x l vs (h1.set l (.list (xs ++ [u]))) := by
  rw [compGo, if_pos hk, h]
  dsimp only
  rw [hl]
  dsimp only
  rw [if_pos hx]
theorem a_addB {a b : List UInt8} (hp : Hp) (h : a.length + b.length ≤ 10000) : binV .Add (.bytes a) (.bytes b) hp = some (.bytes (a ++ b), hp) := by
  unfold binV addV
  dsimp only
  rw [if_pos (by omega)]
theorem add_TL {hp : Hp} {f g : Nat} {D E : List (Tk × Int)} (h : TL hp f D) (k : TL hp g E) (hl : D.length + E.length ≤ 10000) : ∃ h1, binV .Add (.ref f) (.ref g) hp = some (.ref hp.length, h1) ∧ Ext hp h1 ∧ TL h1 hp.length (D ++ E) := by
  obtain ⟨us, h1, h2⟩ := h
  obtain ⟨vs, k1, k2⟩ := k
  have l1 := h2.len
  have l2 := k2.len
  refine ⟨hp ++ [.list (us ++ vs)], ?_, Ext.push _ _, us ++ vs, new_at _ _, (h2.app k2).keep fun i ys hy => Ext.push _ _ _ _ hy⟩
  unfold binV addV
  dsimp only
  rw [h1, k1]
  dsimp only
  rw [if_pos (by omega)]
section
variable {n : Nat} {l : Addr} {ns : List Int} {hp : Hp} {ls : Ls}
theorem comp_int {C : Orc} {i a : Nat} {xs : List V} (ne : a ≠ i) : ∀ (vs : List Int) (done : List V) (hp : Hp), hp[i]? = some (.list xs) → hp[a]? = some (.list done) → done.length + vs.length ≤ 1000 →
    ∃ hp', compGo (fun hp => hp[i]? = some (.list xs)) (e1S (callV C) (eV (.bi .int)) [(eLoc (S "cell"))]) (S "cell") a (vs.map .int) hp = some hp' ∧ hp'[a]? = some (.list (done ++ vs.map .int))
  | [], done, hp, h1, h2, _ => ⟨hp, cc_nil h1, by rw [List.map_nil, List.append_nil]; exact h2⟩
  | v :: vs, done, hp, h1, h2, hl => by
    rw [List.length_cons] at hl
    have s := St.set (o' := .list (done ++ [V.int v])) h2
    obtain ⟨hp', q1, q2⟩ := comp_int ne vs (done ++ [.int v]) _ (s.keep _ _ (Ne.symm ne) h1) s.at_ (by rw [List.length_append, List.length_cons, List.length_nil]; omega)
    refine ⟨hp', ?_, ?_⟩
    · rw [List.map_cons, cc_step (u := .int v) (h1 := hp) h1 ?_ h2 (by omega), q1]
      have lk : bind1 (S "cell") (.int v) (fun _ => none) (S "cell") = some (.int v) := if_pos rfl
      rw [a_e1S, a_eV]
      dsimp only
      rw [a_eAll1, a_eLoc, lk]
      rfl
    · rw [q2, List.append_assoc]; rfl
theorem pen_new {C : Orc} (h : ls (S "script") = some (.scr l)) :
    ∃ p ce h1, eS (newO .list) [(eCompL (e1S (callV C) (eV (.bi .int)) [(eLoc (S "cell"))]) (S "cell") (eCut (l, ns) (eLoc (S "script")) none (some (eV (.int 40))))), (eV (.int 0)), (eV (.int 0))] ls [] = some (.ref p, h1) ∧ Pen h1 p ce (ns.take 40) 0 := by
  have ct : eCut (l, ns) (eLoc (S "script")) none (some (eV (.int 40))) ls [] = some (.ref 0, [O.list ((ns.take 40).map V.int)]) := by
    have : cutV (l, ns) (.scr l) none (some (.int 40)) [] = some (.ref 0, [O.list ((ns.take 40).map V.int)]) := by
      show (if l = l then some (V.ref 0, [O.list ((ns.take 40).map V.int)]) else none) = _
      rw [if_pos rfl]
    simp only [a_eCut, a_eO0, a_eO1, a_eLoc, a_eV, h, this]
  have tl : (ns.take 40).length ≤ 40 := by rw [List.length_take]; omega
  obtain ⟨h2, q1, q2⟩ := comp_int (C := C) (i := 0) (a := 1) (xs := (ns.take 40).map V.int) (by decide) (ns.take 40) [] ([O.list ((ns.take 40).map V.int)] ++ [O.list []]) rfl rfl (by rw [List.length_nil]; omega)
  have cp : eCompL (e1S (callV C) (eV (.bi .int)) [(eLoc (S "cell"))]) (S "cell") (eCut (l, ns) (eLoc (S "script")) none (some (eV (.int 40)))) ls [] = some (.ref 1, h2) := by
    unfold eCompL
    rw [ct]
    dsimp only
    rw [show ([O.list ((ns.take 40).map V.int)] : Hp)[0]? = some (.list ((ns.take 40).map V.int)) from rfl]
    dsimp only
    rw [if_pos (by rw [List.length_map]; omega), show List.length [O.list ((ns.take 40).map V.int)] = 1 from rfl, q1]
  rw [List.nil_append] at q2
  have l2 := lt_of_at q2
  refine ⟨h2.length, 1, h2 ++ [.list [.ref 1, .int 0, .int 0]], ?_, 0, 0, new_at _ _, Ext.push _ _ _ _ q2, by omega, Nat.le_refl _⟩
  rw [a_eS, a_eAll1, cp]
  dsimp only
  rw [a_eAll1, a_eV]
  dsimp only
  rw [a_eAll1, a_eV]
  dsimp only
  rw [a_eAll0]
  dsimp only
  rw [a_newL, if_pos (by simp)]
/-- the law's run -/
theorem law_run (hn : 20000 ≤ n) : ∃ hp', fin (sAll (body_412 (orc n (l, ns) 12) n (l, ns)) (lsOf [(Str.ofString "script", .scr l)]) []) = some (.bool true, hp') := by
  have hc : (ns.take 40).length ≤ 40 := by rw [List.length_take]; omega
  have ls0 : lsOf [(Str.ofString "script", V.scr l)] (S "script") = some (.scr l) := by rw [ls1, if_pos rfl]
  obtain ⟨p, ce, h1, s1, P1⟩ := pen_new (ns := ns) (C := orc n (l, ns) 12) ls0
  generalize lsOf [(Str.ofString "script", V.scr l)] = L0 at ls0 s1
  -- one
  have pen1 : bind1 (S "pen") (.ref p) L0 (S "pen") = some (.ref p) := if_pos rfl
  generalize e1 : bind1 (S "pen") (.ref p) L0 = L1 at pen1
  obtain ⟨ps1, h2, q2, b1, m1, k2, P2⟩ := sp_400 (n := n) (sc := (l, ns)) (k := 10) P1 (by omega) hc
  have s2 : e1S (callV (orc n (l, ns) 12)) (eV (.fn 400)) [(eLoc (S "pen"))] L1 h1 = some (.bytes ps1.flatten, h2) := by
    rw [a_e1S, a_eV]
    simp only [a_eAll1, a_eAll0, a_eLoc, pen1]
    exact q2
  have fl1 := flat_len ps1 m1
  obtain ⟨T1, K1⟩ := part_toks m1 b1 0
  generalize ps1.flatten = one at s2 fl1 K1
  have pen2 : bind1 (S "one") (.bytes one) L1 (S "pen") = some (.ref p) := (bind_ne (by decide)).trans pen1
  have one2 : bind1 (S "one") (.bytes one) L1 (S "one") = some (.bytes one) := if_pos rfl
  generalize e2' : bind1 (S "one") (.bytes one) L1 = L2 at pen2 one2
  -- other
  obtain ⟨ps2, h3, q3, b2, m2, k3, P3⟩ := sp_400 (n := n) (sc := (l, ns)) (k := 10) P2 (by omega) hc
  have s3 : e1S (callV (orc n (l, ns) 12)) (eV (.fn 400)) [(eLoc (S "pen"))] L2 h2 = some (.bytes ps2.flatten, h3) := by
    rw [a_e1S, a_eV]
    simp only [a_eAll1, a_eAll0, a_eLoc, pen2]
    exact q3
  have fl2 := flat_len ps2 m2
  obtain ⟨T2, K2⟩ := part_toks m2 b2 0
  generalize ps2.flatten = other at s3 fl2 K2
  have pen3 : bind1 (S "other") (.bytes other) L2 (S "pen") = some (.ref p) := (bind_ne (by decide)).trans pen2
  have one3 : bind1 (S "other") (.bytes other) L2 (S "one") = some (.bytes one) := (bind_ne (by decide)).trans one2
  have oth3 : bind1 (S "other") (.bytes other) L2 (S "other") = some (.bytes other) := if_pos rfl
  generalize e3 : bind1 (S "other") (.bytes other) L2 = L3 at pen3 one3 oth3
  -- white
  obtain ⟨wh, h4, s4, wm, k4, P4⟩ := white_of (n := n) (sc := (l, ns)) (k := 11) (ls := L3) P3 (by omega) hc pen3
  obtain ⟨w1, w2, w3⟩ := whites_of wm
  have pen4 : bind1 (S "white") (.bytes wh) L3 (S "pen") = some (.ref p) := (bind_ne (by decide)).trans pen3
  have one4 : bind1 (S "white") (.bytes wh) L3 (S "one") = some (.bytes one) := (bind_ne (by decide)).trans one3
  have oth4 : bind1 (S "white") (.bytes wh) L3 (S "other") = some (.bytes other) := (bind_ne (by decide)).trans oth3
  have whi4 : bind1 (S "white") (.bytes wh) L3 (S "white") = some (.bytes wh) := if_pos rfl
  generalize e4 : bind1 (S "white") (.bytes wh) L3 = L4 at pen4 one4 oth4 whi4
  -- data
  have s5 : e2 (binV .Add) (e2 (binV .Add) (eLoc (S "one")) (eLoc (S "white"))) (eLoc (S "other")) L4 h4 = some (.bytes (one ++ (wh ++ other)), h4) := by
    have x1 := a_addB (a := one) (b := wh) h4 (by omega)
    have x2 := a_addB (a := one ++ wh) (b := other) h4 (by rw [List.length_append]; omega)
    rw [List.append_assoc] at x2
    simp only [a_e2, a_eLoc, one4, whi4, oth4, x1, x2]
  have K : Toks 0 (one ++ (wh ++ other)) (T1 ++ sh (one.length + wh.length) T2) := K1.app w1 (w2 other) (by
    have := K2.shift (one.length + wh.length)
    rw [← Nat.add_assoc] at this
    exact this)
  have dl : (one ++ (wh ++ other)).length ≤ 90 := by simp only [List.length_append]; omega
  generalize hd : one ++ (wh ++ other) = d at s5 K dl
  have pen5 : bind1 (S "data") (.bytes d) L4 (S "pen") = some (.ref p) := (bind_ne (by decide)).trans pen4
  have one5 : bind1 (S "data") (.bytes d) L4 (S "one") = some (.bytes one) := (bind_ne (by decide)).trans one4
  have oth5 : bind1 (S "data") (.bytes d) L4 (S "other") = some (.bytes other) := (bind_ne (by decide)).trans oth4
  have whi5 : bind1 (S "data") (.bytes d) L4 (S "white") = some (.bytes wh) := (bind_ne (by decide)).trans whi4
  have dat5 : bind1 (S "data") (.bytes d) L4 (S "data") = some (.bytes d) := if_pos rfl
  generalize e5 : bind1 (S "data") (.bytes d) L4 = L5 at pen5 one5 oth5 whi5 dat5
  -- first
  obtain ⟨f, h6, s6, x6, t6, _⟩ := told_a (l := l) (ns := ns) (ls := L5) (hp := h4) (me := eV (.int 0)) (m := 0) hn (by omega) K1 (ae := eLoc (S "one")) (by rw [a_eLoc, one5]) (fun _ => rfl)
  have pen6 : bind1 (S "first") (.ref f) L5 (S "pen") = some (.ref p) := (bind_ne (by decide)).trans pen5
  have one6 : bind1 (S "first") (.ref f) L5 (S "one") = some (.bytes one) := (bind_ne (by decide)).trans one5
  have oth6 : bind1 (S "first") (.ref f) L5 (S "other") = some (.bytes other) := (bind_ne (by decide)).trans oth5
  have whi6 : bind1 (S "first") (.ref f) L5 (S "white") = some (.bytes wh) := (bind_ne (by decide)).trans whi5
  have dat6 : bind1 (S "first") (.ref f) L5 (S "data") = some (.bytes d) := (bind_ne (by decide)).trans dat5
  have fir6 : bind1 (S "first") (.ref f) L5 (S "first") = some (.ref f) := if_pos rfl
  generalize e6 : bind1 (S "first") (.ref f) L5 = L6 at pen6 one6 oth6 whi6 dat6 fir6
  have P6 := P4.ext x6
  -- second
  obtain ⟨g, h7, s7, x7, t7, _⟩ := told_a (l := l) (ns := ns) (ls := L6) (hp := h6) (me := e2 (binV .Add) (e1S (callV (orc n (l, ns) 12)) (eV (.bi .len)) [(eLoc (S "one"))]) (e1S (callV (orc n (l, ns) 12)) (eV (.bi .len)) [(eLoc (S "white"))])) (m := ((one.length + wh.length : Nat) : Int)) hn (by omega) K2 (ae := eLoc (S "other")) (by rw [a_eLoc, oth6]) (fun hp' => i_add (len_b one6 (by omega) hp') (len_b whi6 (by omega) hp'))
  have pen7 : bind1 (S "second") (.ref g) L6 (S "pen") = some (.ref p) := (bind_ne (by decide)).trans pen6
  have one7 : bind1 (S "second") (.ref g) L6 (S "one") = some (.bytes one) := (bind_ne (by decide)).trans one6
  have whi7 : bind1 (S "second") (.ref g) L6 (S "white") = some (.bytes wh) := (bind_ne (by decide)).trans whi6
  have dat7 : bind1 (S "second") (.ref g) L6 (S "data") = some (.bytes d) := (bind_ne (by decide)).trans dat6
  have fir7 : bind1 (S "second") (.ref g) L6 (S "first") = some (.ref f) := (bind_ne (by decide)).trans fir6
  have sec7 : bind1 (S "second") (.ref g) L6 (S "second") = some (.ref g) := if_pos rfl
  generalize e7 : bind1 (S "second") (.ref g) L6 = L7 at pen7 one7 whi7 dat7 fir7 sec7
  have P7 := P6.ext x7
  have t6 := t6.ext x7
  -- both
  obtain ⟨bo, h8, s8, x8, t8, lb⟩ := told_a (l := l) (ns := ns) (ls := L7) (hp := h7) (me := eV (.int 0)) (m := 0) hn (by omega) K (ae := eLoc (S "data")) (by rw [a_eLoc, dat7]) (fun _ => rfl)
  have F8 : LF (bind1 (S "both") (.ref bo) L7) p bo d one wh := ⟨(bind_ne (by decide)).trans pen7, if_pos rfl, (bind_ne (by decide)).trans dat7, (bind_ne (by decide)).trans one7, (bind_ne (by decide)).trans whi7⟩
  have fir8 : bind1 (S "both") (.ref bo) L7 (S "first") = some (.ref f) := (bind_ne (by decide)).trans fir7
  have sec8 : bind1 (S "both") (.ref bo) L7 (S "second") = some (.ref g) := (bind_ne (by decide)).trans sec7
  generalize e8 : bind1 (S "both") (.ref bo) L7 = L8 at F8 fir8 sec8
  have ne : bo ≠ p := by
    obtain ⟨pl, gg, y1, _⟩ := P7
    have := lt_of_at y1
    omega
  have P8 := P7.ext x8
  have t6 := t6.ext x8
  have t7 := t7.ext x8
  -- both is first and second
  have kl1 := K1.len
  have kl2 := K2.len
  have kl := K.len
  obtain ⟨h9, q9, x9, t9⟩ := add_TL t6 t7 (by rw [mv_len, mv_len]; omega)
  have s9 : e2 (binV .Add) (eLoc (S "first")) (eLoc (S "second")) L8 h8 = some (.ref h8.length, h9) := by
    simp only [a_e2, a_eLoc, fir8, sec8, q9]
  have both8 : eLoc (S "both") L8 h8 = some (.ref bo, h8) := by rw [a_eLoc, F8.both]
  have H9 := t8.ext x9
  have sm9 : Same h9 (.ref bo) (.ref h8.length) := H9.same (by
    rw [mv_app, mv_sh]
    exact t9)
  have P9 := P8.ext x9
  generalize T1 ++ sh (one.length + wh.length) T2 = T at K H9 kl
  -- ahead
  obtain ⟨ah, h10, s10, am, k10, P10⟩ := white_of (n := n) (sc := (l, ns)) (k := 11) (ls := L8) P9 (by omega) hc F8.pen
  obtain ⟨a1, a2, a3⟩ := whites_of am
  have F10 : LF (bind1 (S "ahead") (.bytes ah) L8) p bo d one wh := F8.bind (by decide)
  have ah10 : bind1 (S "ahead") (.bytes ah) L8 (S "ahead") = some (.bytes ah) := if_pos rfl
  generalize e10 : bind1 (S "ahead") (.bytes ah) L8 = L10 at F10 ah10
  have H10 := H9.kp k10 P9 ne
  -- white ahead and behind
  have Ka : Toks 0 (ah ++ (d ++ ah)) (sh ah.length T) := by
    have y := (K.shift ah.length).app (v := ah) (w := []) (T2 := []) a1 (a2 []) (.nil _ _ .nil)
    rw [List.append_nil, List.append_nil] at y
    exact Toks.white a1 y
  have s11a : e2 (binV .Add) (e2 (binV .Add) (eLoc (S "ahead")) (eLoc (S "data"))) (eLoc (S "ahead")) L10 h10 = some (.bytes (ah ++ (d ++ ah)), h10) := by
    have x1 := a_addB (a := ah) (b := d) h10 (by omega)
    have x2 := a_addB (a := ah ++ d) (b := ah) h10 (by rw [List.length_append]; omega)
    rw [List.append_assoc] at x2
    simp only [a_e2, a_eLoc, F10.data, ah10, x1, x2]
  obtain ⟨z, h11, s11, x11, t11, _⟩ := told_a (l := l) (ns := ns) (ls := L10) (hp := h10) (me := e2 (binV .Sub) (eV (.int 0)) (e1S (callV (orc n (l, ns) 12)) (eV (.bi .len)) [(eLoc (S "ahead"))])) (m := 0 - (ah.length : Int)) hn (by simp only [List.length_append]; omega) Ka s11a (fun hp' => i_sub (i_lit 0) (len_b ah10 (by omega) hp'))
  rw [mv_back] at t11
  have H11 := H10.ext x11
  have both11 : eLoc (S "both") L10 h11 = some (.ref bo, h11) := by rw [a_eLoc, F10.both]
  have P11 := P10.ext x11
  -- the for, the if, the return
  obtain ⟨L12, h12, s12, F12, x12⟩ := for_B (l := l) (ns := ns) (es := (body_412 (orc n (l, ns) 12) n (l, ns)).drop 12) hn (by omega) K F10 H11
  obtain ⟨L13, h13, s13, F13⟩ := if_C (l := l) (ns := ns) (es := (body_412 (orc n (l, ns) 12) n (l, ns)).drop 13) hn (by omega) K F12 (H11.ext x12) (P11.ext x12) (by omega) hc ne
  obtain ⟨h14, s14⟩ := ret_D (l := l) (ns := ns) (hp := h13) hn w1 F13 (by omega) hd.symm
  have c1 : sAll (body_412 (orc n (l, ns) 12) n (l, ns)) L0 [] = sAll ((body_412 (orc n (l, ns) 12) n (l, ns)).drop 1) L1 h1 := e1 ▸ asg_step (es := (body_412 (orc n (l, ns) 12) n (l, ns)).drop 1) s1
  have c2 : sAll ((body_412 (orc n (l, ns) 12) n (l, ns)).drop 1) L1 h1 = sAll ((body_412 (orc n (l, ns) 12) n (l, ns)).drop 2) L2 h2 := e2' ▸ asg_step (es := (body_412 (orc n (l, ns) 12) n (l, ns)).drop 2) s2
  have c3 : sAll ((body_412 (orc n (l, ns) 12) n (l, ns)).drop 2) L2 h2 = sAll ((body_412 (orc n (l, ns) 12) n (l, ns)).drop 3) L3 h3 := e3 ▸ asg_step (es := (body_412 (orc n (l, ns) 12) n (l, ns)).drop 3) s3
  have c4 : sAll ((body_412 (orc n (l, ns) 12) n (l, ns)).drop 3) L3 h3 = sAll ((body_412 (orc n (l, ns) 12) n (l, ns)).drop 4) L4 h4 := e4 ▸ asg_step (es := (body_412 (orc n (l, ns) 12) n (l, ns)).drop 4) s4
  have c5 : sAll ((body_412 (orc n (l, ns) 12) n (l, ns)).drop 4) L4 h4 = sAll ((body_412 (orc n (l, ns) 12) n (l, ns)).drop 5) L5 h4 := e5 ▸ asg_step (es := (body_412 (orc n (l, ns) 12) n (l, ns)).drop 5) s5
  have c6 : sAll ((body_412 (orc n (l, ns) 12) n (l, ns)).drop 5) L5 h4 = sAll ((body_412 (orc n (l, ns) 12) n (l, ns)).drop 6) L6 h6 := e6 ▸ asg_step (es := (body_412 (orc n (l, ns) 12) n (l, ns)).drop 6) s6
  have c7 : sAll ((body_412 (orc n (l, ns) 12) n (l, ns)).drop 6) L6 h6 = sAll ((body_412 (orc n (l, ns) 12) n (l, ns)).drop 7) L7 h7 := e7 ▸ asg_step (es := (body_412 (orc n (l, ns) 12) n (l, ns)).drop 7) s7
  have c8 : sAll ((body_412 (orc n (l, ns) 12) n (l, ns)).drop 7) L7 h7 = sAll ((body_412 (orc n (l, ns) 12) n (l, ns)).drop 8) L8 h8 := e8 ▸ asg_step (es := (body_412 (orc n (l, ns) 12) n (l, ns)).drop 8) s8
  have c9 : sAll ((body_412 (orc n (l, ns) 12) n (l, ns)).drop 8) L8 h8 = sAll ((body_412 (orc n (l, ns) 12) n (l, ns)).drop 9) L8 h9 := if_same both8 s9 sm9 ((body_412 (orc n (l, ns) 12) n (l, ns)).drop 9)
  have c10 : sAll ((body_412 (orc n (l, ns) 12) n (l, ns)).drop 9) L8 h9 = sAll ((body_412 (orc n (l, ns) 12) n (l, ns)).drop 10) L10 h10 := e10 ▸ asg_step (es := (body_412 (orc n (l, ns) 12) n (l, ns)).drop 10) s10
  have c11 : sAll ((body_412 (orc n (l, ns) 12) n (l, ns)).drop 10) L10 h10 = sAll ((body_412 (orc n (l, ns) 12) n (l, ns)).drop 11) L10 h11 := if_same s11 both11 (t11.same H11) ((body_412 (orc n (l, ns) 12) n (l, ns)).drop 11)
  refine ⟨h14, ?_⟩
  rw [c1, c2, c3, c4, c5, c6, c7, c8, c9, c10, c11]
  refine (congrArg fin s12).trans ((congrArg fin s13).trans s14)
/-- what E0 asks -/
theorem plain_law (l : Addr) (ns : List Int) : ∃ n hp', orc n (l, ns) 13 412 [.scr l] [] = some (.bool true, hp') := by
  obtain ⟨hp', h⟩ := law_run (n := 20000) (l := l) (ns := ns) (Nat.le_refl _)
  refine ⟨20000, hp', ?_⟩
  rw [orc_def rfl rfl rfl (den_412 ..)]
  exact h
end
end Mine

theorem PySem.Challenge.cw_og0183_01_holds : PySem.Challenge.rw_og0183_01.Holds :=
  Mine.of_plain fun l ns _ => Mine.plain_law l ns

