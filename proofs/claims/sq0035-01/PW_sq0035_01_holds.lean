import PyProof.Rows.All
import Wide.All
import OpenK.AllK
import Wide.FinOn
import PyProof.ToksMono
import KE.KDictSum
import KE.KBytesWalk
import KE.IntBitsLaws
import Lean
import PySem.Challenge.RW_sq0035_01
set_option Elab.async false
set_option maxRecDepth 100000
set_option maxHeartbeats 8000000
set_option tactic.hygienic false
set_option linter.unusedVariables false
namespace Mine
open PySem PySem.W PySem.Calls PyProof.Rows

noncomputable abbrev pw : Program := PySem.Challenge.pw_sq0035_01
noncomputable def vw : Program := view pw [50]
noncomputable def loose : List Str := (["_wall", "PageError", "BadArgument", "Overflow", "BadCharacter", "TooMuch", "MAX_NUMBER", "is_whole", "check_whole", "check_number", "ESCAPE", "BEGIN", "END", "MATH", "TAB", "RETURN", "PARAMETER", "UP", "DOWN", "IGNORED", "SPACE", "LETTER", "OTHER", "ACTIVE", "COMMENT", "INVALID", "CONTROL", "OUT", "MATCH", "FROZEN", "NOT_EXPANDED", "MOST_NAMES", "LEAST_CODES", "GREATEST_CODES", "END_MARK_TEXTS", "SPECIAL_CATEGORIES", "is_token", "check_text", "Names", "plain_category", "plain_categories", "CatList", "is_letter", "escape_text", "name_text", "end_mark_text", "show_token", "show_tokens", "NEW", "MIDDLE", "SKIPPING", "hex_value", "written_otherwise", "Lines", "_law_pool", "_law_marks", "_law_plain", "_law_letters", "_law_box", "_law_take", "_law_category", "_law_drawn", "_law_row", "_law_written", "_law_read"] : List String).map Str.ofString
noncomputable abbrev sn (x : String) : Str := Str.ofString x
noncomputable def tl (i : Nat) : Option Stmt := pw.main.body[i]?
noncomputable def cl (i j : Nat) : Option Stmt := match tl i with
  | some (.ClassDef _ _ _ b ..) => b[j]?
  | _ => none
noncomputable def fParams : Option Stmt → Arguments
  | some (.FunctionDef _ a ..) => a
  | _ => default
noncomputable def fBody : Option Stmt → List Stmt
  | some (.FunctionDef _ _ b ..) => b
  | _ => []
noncomputable def fScope : Option Stmt → Scope
  | some (.FunctionDef _ _ _ _ _ _ sc ..) => sc
  | _ => default
noncomputable def fdata (name qual : Str) (st : Option Stmt) (dV pm cd : Value) : FuncData :=
  { name := name, qualname := qual, params := fParams st, body := .stmts (fBody st), scope := fScope st, globals := 3, closure := [], defaults := dV, kwdefaults := .none, pyModule := pm, code := cd }
noncomputable def fo (name qual : Str) (st : Option Stmt) (dV pm cd : Value) : Obj := { cls := .type "function", data := .func (fdata name qual st dV pm cd) }
noncomputable def tupo (vs : List Value) : Obj := { cls := .type "tuple", data := .seq vs.toArray }
noncomputable def cdo (vs : List Value) : Obj := { cls := .type "code", data := .fields vs.toArray }
noncomputable def clo (name : Str) (a ns : Addr) (sl : Array (Option Value)) : Obj :=
  { cls := .type "type", data := .cls { name := name, bases := [.type "object"], mro := [.ref a, .type "object"], ns := ns, qualname := name }, slots := sl }
noncomputable def nso (P : Params) (k : Nat) (es : List (Str × Tok × Value)) : Obj := { cls := .type "dict", data := .dict (es.map fun e => ⟨PyData.keyHash P e.1, .str e.1 e.2.1, e.2.2⟩).toArray k }
noncomputable def ns2 (P : Params) (k : Nat) (es : List (Str × Tok × Value)) : Obj := { cls := .none, data := .dict (es.map fun e => ⟨PyData.keyHash P e.1, .str e.1 e.2.1, e.2.2⟩).toArray k }
noncomputable def ido (k : Nat) (es : List (Int × Tok × Value)) : Obj := { cls := .type "dict", data := .dict (es.map fun e => ⟨e.1, .int e.1 e.2.1, e.2.2⟩).toArray k }
noncomputable def tv124 : List Value := [(.int 0 367), (.int 0 368), (.int 0 369), (.int 0 370), (.int 0 371), (.int 1 372), (.int 0 373), (.int 0 374), (.int 0 375), (.int 1 376), (.int 0 377), (.int 0 378), (.int 0 379), (.int 0 380), (.int 0 381), (.int 0 382)]
noncomputable def tv125 : List Value := [(.int 1048575 385), (.int 255 386), (.int 255 387), (.int 255 388), (.int 255 389), (.int 9 390), (.int 255 391), (.int 255 392), (.int 255 393), (.int 9 394), (.int 255 395), (.int 255 396), (.int 255 397), (.int 255 398), (.int 255 399), (.int 0 400)]
noncomputable def tv382 : List Value := [(.int 97 784), (.int 98 785), (.int 99 786), (.int 64 787), (.int 33 788), (.int 123 789), (.int 125 790), (.int 36 791), (.int 38 792), (.int 35 793), (.int 94 794), (.int 95 795), (.int 126 796), (.int 49 797), (.int 200 798)]
noncomputable def tv383 : List Value := [(.int 32 800), (.int 37 801), (.int 92 802), (.int 124 803), (.int 0 804), (.int 127 805), (.int 13 806), (.int 48 807), (.int 255 808)]
noncomputable def mainE : List (Str × Tok × Value) :=
  [((sn "__name__"), 165, (.str (sn "law_sq0035_01") 782)), ((sn "__doc__"), 166, .none), ((sn "__package__"), 167, .none), ((sn "__loader__"), 168, (.builtin
      "__main__.__loader__#opaque")), ((sn "__spec__"), 169, .none), ((sn "__annotations__"), 170, (.ref 6)), ((sn "__builtins__"), 171, (.ref 4)), ((sn "__file__"), 173, (.str (sn
      "/claim/cut.py") 172)), ((sn "__cached__"), 174, .none), ((sn "_wall"), 193, (.ref 21)), ((sn "PageError"), 223, (.ref 39)), ((sn "BadArgument"), 239, (.ref 52)), ((sn
      "Overflow"), 255, (.ref 64)), ((sn "BadCharacter"), 271, (.ref 76)), ((sn "TooMuch"), 287, (.ref 88)), ((sn "MAX_NUMBER"), 295, (.int 2147483647 294)), ((sn "is_whole"), 304,
      (.ref 97)), ((sn "check_whole"), 311, (.ref 104)), ((sn "check_number"), 318, (.ref 111)), ((sn "ESCAPE"), 329, (.int 0 321)), ((sn "BEGIN"), 330, (.int 1 322)), ((sn "END"),
      331, (.int 2 323)), ((sn "MATH"), 332, (.int 3 324)), ((sn "TAB"), 333, (.int 4 325)), ((sn "RETURN"), 334, (.int 5 326)), ((sn "PARAMETER"), 335, (.int 6 327)), ((sn "UP"),
      336, (.int 7 328)), ((sn "DOWN"), 345, (.int 8 337)), ((sn "IGNORED"), 346, (.int 9 338)), ((sn "SPACE"), 347, (.int 10 339)), ((sn "LETTER"), 348, (.int 11 340)), ((sn
      "OTHER"), 349, (.int 12 341)), ((sn "ACTIVE"), 350, (.int 13 342)), ((sn "COMMENT"), 351, (.int 14 343)), ((sn "INVALID"), 352, (.int 15 344)), ((sn "CONTROL"), 358, (.int 0
      353)), ((sn "OUT"), 359, (.int 5 354)), ((sn "MATCH"), 360, (.int 9 355)), ((sn "FROZEN"), 361, (.int 14 356)), ((sn "NOT_EXPANDED"), 362, (.int 15 357)), ((sn "MOST_NAMES"),
      366, (.int 1048576 365)), ((sn "LEAST_CODES"), 383, (.ref 124)), ((sn "GREATEST_CODES"), 401, (.ref 125)), ((sn "END_MARK_TEXTS"), 407, (.ref 126)), ((sn "SPECIAL_CATEGORIES"),
      436, (.ref 127)), ((sn "is_token"), 443, (.ref 134)), ((sn "check_text"), 451, (.ref 141)), ((sn "Names"), 514, (.ref 187)), ((sn "plain_category"), 521, (.ref 198)), ((sn
      "plain_categories"), 531, (.ref 205)), ((sn "CatList"), 575, (.ref 235)), ((sn "is_letter"), 583, (.ref 247)), ((sn "escape_text"), 590, (.ref 254)), ((sn "name_text"), 600,
      (.ref 262)), ((sn "end_mark_text"), 607, (.ref 269)), ((sn "show_token"), 621, (.ref 277)), ((sn "show_tokens"), 635, (.ref 285)), ((sn "NEW"), 641, (.int 0 638)), ((sn
      "MIDDLE"), 642, (.int 1 639)), ((sn "SKIPPING"), 643, (.int 2 640)), ((sn "hex_value"), 650, (.ref 296)), ((sn "written_otherwise"), 662, (.ref 303)), ((sn "Lines"), 781, (.ref
      377)), ((sn "_law_pool"), 799, (.ref 382)), ((sn "_law_marks"), 809, (.ref 383)), ((sn "_law_plain"), 815, (.ref 390)), ((sn "_law_letters"), 817, (.str (sn
      "abcdefghijklmnopqrstuvwxyzABCDEFGHIJKLMNOPQRSTUVWXYZ") 816)), ((sn "_law_box"), 823, (.ref 395)), ((sn "_law_take"), 833, (.ref 402)), ((sn "_law_category"), 841, (.ref 409)),
      ((sn "_law_drawn"), 847, (.ref 414)), ((sn "_law_row"), 862, (.ref 421)), ((sn "_law_written"), 873, (.ref 428)), ((sn "_law_read"), 879, (.ref 433)), ((sn "law"), 885, (.ref
      438))]
noncomputable def spE : List (Int × Tok × Value) := [(0, 408, .int 9 338), (13, 409, .int 5 326), (32, 410, .int 10 339), (35, 411, .int 6 327), (36, 412, .int 3 324), (37, 413, .int 14 343), (38, 414, .int 4 325), (92, 415, .int 0 321), (94, 416, .int 7 328), (95, 417, .int 8 337), (123, 418, .int 1 322), (125, 419, .int 2 323), (126, 420, .int 13 342), (127, 421, .int 15 344)]
noncomputable def K (P : Params) : Frag := [
  (1, boot_o_1 P),
  (2, ns2 P 0 []),
  (3, nso P 75 mainE),
  (96, cdo [(.str (sn "is_whole") 296), (.str (sn "is_whole") 297), (.str (sn "/claim/cut.py") 298), (.int 19 0), (.int 3 0), (.int 0 0), (.int 0 0), (.int 3 0), (.ref 91), (.bool
      true), (.int 181 0), (.ref 92), .none, (.ref 93), (.ref 94), (.ref 95), (.int 302 0), (.int 19 0), (.str (sn "/claim/cut.py") 303)]),
  (97, fo (sn "is_whole") (sn "is_whole") (tl 9) .none (.str (sn "gluepage.scaled") 288) (.ref 96)),
  (103, cdo [(.str (sn "check_whole") 305), (.str (sn "check_whole") 306), (.str (sn "/claim/cut.py") 307), (.int 21 0), (.int 1 0), (.int 0 0), (.int 0 0), (.int 3 0), (.ref 98),
      (.bool true), (.int 181 0), (.ref 99), .none, (.ref 100), (.ref 101), (.ref 102), (.int 309 0), (.int 21 0), (.str (sn "/claim/cut.py") 310)]),
  (104, fo (sn "check_whole") (sn "check_whole") (tl 10) .none (.str (sn "gluepage.scaled") 288) (.ref 103)),
  (110, cdo [(.str (sn "check_number") 312), (.str (sn "check_number") 313), (.str (sn "/claim/cut.py") 314), (.int 25 0), (.int 1 0), (.int 0 0), (.int 0 0), (.int 3 0), (.ref 105),
      (.bool true), (.int 181 0), (.ref 106), .none, (.ref 107), (.ref 108), (.ref 109), (.int 316 0), (.int 25 0), (.str (sn "/claim/cut.py") 317)]),
  (111, fo (sn "check_number") (sn "check_number") (tl 11) .none (.str (sn "gluepage.scaled") 288) (.ref 110)),
  (124, tupo tv124),
  (125, tupo tv125),
  (126, tupo [(.str (sn "endtemplate") 402), (.str (sn "endoutput") 403), (.str (sn "endlist") 404), (.str (sn "beginentry") 405), (.str (sn "relax") 406)]),
  (127, ido 14 spE),
  (133, cdo [(.str (sn "is_token") 437), (.str (sn "is_token") 438), (.str (sn "/claim/cut.py") 439), (.int 38 0), (.int 1 0), (.int 0 0), (.int 0 0), (.int 3 0), (.ref 128), (.bool
      true), (.int 181 0), (.ref 129), .none, (.ref 130), (.ref 131), (.ref 132), (.int 441 0), (.int 38 0), (.str (sn "/claim/cut.py") 442)]),
  (134, fo (sn "is_token") (sn "is_token") (tl 21) .none (.str (sn "gluepage.tokens") 319) (.ref 133)),
  (140, cdo [(.str (sn "check_text") 444), (.str (sn "check_text") 445), (.str (sn "/claim/cut.py") 446), (.int 42 0), (.int 1 0), (.int 0 0), (.int 0 0), (.int 3 0), (.ref 135),
      (.bool true), (.int 181 0), (.ref 136), .none, (.ref 137), (.ref 138), (.ref 139), (.int 449 0), (.int 42 0), (.str (sn "/claim/cut.py") 450)]),
  (141, fo (sn "check_text") (sn "check_text") (tl 22) .none (.str (sn "gluepage.tokens") 319) (.ref 140)),
  (149, tupo [(.int 1048576 365)]),
  (155, cdo [(.str (sn "__init__") 464), (.str (sn "Names.__init__") 465), (.str (sn "/claim/cut.py") 466), (.int 50 0), (.int 2 0), (.int 0 0), (.int 0 0), (.int 3 0), (.ref 150),
      (.bool true), (.int 181 0), (.ref 151), .none, (.ref 152), (.ref 153), (.ref 154), (.int 469 0), (.int 50 0), (.str (sn "/claim/cut.py") 470)]),
  (156, fo (sn "__init__") (sn "Names.__init__") (cl 23 0) (.ref 149) (.str (sn "gluepage.tokens") 319) (.ref 155)),
  (162, cdo [(.str (sn "find") 472), (.str (sn "Names.find") 473), (.str (sn "/claim/cut.py") 474), (.int 57 0), (.int 2 0), (.int 0 0), (.int 0 0), (.int 3 0), (.ref 157), (.bool
      true), (.int 181 0), (.ref 158), .none, (.ref 159), (.ref 160), (.ref 161), (.int 477 0), (.int 57 0), (.str (sn "/claim/cut.py") 478)]),
  (163, fo (sn "find") (sn "Names.find") (cl 23 1) .none (.str (sn "gluepage.tokens") 319) (.ref 162)),
  (169, cdo [(.str (sn "number") 480), (.str (sn "Names.number") 481), (.str (sn "/claim/cut.py") 482), (.int 61 0), (.int 2 0), (.int 0 0), (.int 0 0), (.int 3 0), (.ref 164), (.bool
      true), (.int 181 0), (.ref 165), .none, (.ref 166), (.ref 167), (.ref 168), (.int 486 0), (.int 61 0), (.str (sn "/claim/cut.py") 487)]),
  (170, fo (sn "number") (sn "Names.number") (cl 23 2) .none (.str (sn "gluepage.tokens") 319) (.ref 169)),
  (176, cdo [(.str (sn "text") 489), (.str (sn "Names.text") 490), (.str (sn "/claim/cut.py") 491), (.int 72 0), (.int 2 0), (.int 0 0), (.int 0 0), (.int 3 0), (.ref 171), (.bool
      true), (.int 181 0), (.ref 172), .none, (.ref 173), (.ref 174), (.ref 175), (.int 494 0), (.int 72 0), (.str (sn "/claim/cut.py") 495)]),
  (177, fo (sn "text") (sn "Names.text") (cl 23 3) .none (.str (sn "gluepage.tokens") 319) (.ref 176)),
  (183, cdo [(.str (sn "count") 497), (.str (sn "Names.count") 498), (.str (sn "/claim/cut.py") 499), (.int 77 0), (.int 1 0), (.int 0 0), (.int 0 0), (.int 3 0), (.ref 178), (.bool
      true), (.int 181 0), (.ref 179), .none, (.ref 180), (.ref 181), (.ref 182), (.int 501 0), (.int 77 0), (.str (sn "/claim/cut.py") 502)]),
  (184, fo (sn "count") (sn "Names.count") (cl 23 4) .none (.str (sn "gluepage.tokens") 319) (.ref 183)),
  (186, nso P 4 [((sn "__module__"), 459, (.str (sn "gluepage.tokens") 319)), ((sn "__firstlineno__"), 463, (.int 48 462)), ((sn "__init__"), 471, (.ref 156)), ((sn "find"), 479,
      (.ref 163)), ((sn "number"), 488, (.ref 170)), ((sn "text"), 496, (.ref 177)), ((sn "count"), 503, (.ref 184)), ((sn "__static_attributes__"), 507, (.ref 185)), ((sn
      "__dict__"), 509, (.ref 188)), ((sn "__weakref__"), 511, (.ref 189)), ((sn "__doc__"), 512, .none)]),
  (187, clo (sn "Names") 187 186 #[none, none, some (.str (sn "Names") 452), some (.str (sn "Names") 460), some (.builtin "object.__new__"), some (.bool true)]),
  (197, cdo [(.str (sn "plain_category") 515), (.str (sn "plain_category") 516), (.str (sn "/claim/cut.py") 517), (.int 79 0), (.int 1 0), (.int 0 0), (.int 0 0), (.int 3 0), (.ref
      192), (.bool true), (.int 181 0), (.ref 193), .none, (.ref 194), (.ref 195), (.ref 196), (.int 519 0), (.int 79 0), (.str (sn "/claim/cut.py") 520)]),
  (198, fo (sn "plain_category") (sn "plain_category") (tl 24) .none (.str (sn "gluepage.tokens") 319) (.ref 197)),
  (204, cdo [(.str (sn "plain_categories") 522), (.str (sn "plain_categories") 523), (.str (sn "/claim/cut.py") 524), (.int 83 0), (.int 0 0), (.int 0 0), (.int 0 0), (.int 3 0),
      (.ref 199), (.bool true), (.int 181 0), (.ref 200), .none, (.ref 201), (.ref 202), (.ref 203), (.int 529 0), (.int 83 0), (.str (sn "/claim/cut.py") 530)]),
  (205, fo (sn "plain_categories") (sn "plain_categories") (tl 25) .none (.str (sn "gluepage.tokens") 319) (.ref 204)),
  (213, tupo [.none]),
  (217, cdo [(.str (sn "__init__") 544), (.str (sn "CatList.__init__") 545), (.str (sn "/claim/cut.py") 546), (.int 93 0), (.int 2 0), (.int 0 0), (.int 0 0), (.int 3 0), (.ref 214),
      (.bool true), (.int 181 0), (.ref 215), .none, .none, .none, (.ref 216), (.int 547 0), (.int 93 0), (.str (sn "/claim/cut.py") 548)]),
  (218, fo (sn "__init__") (sn "CatList.__init__") (cl 26 0) (.ref 213) (.str (sn "gluepage.tokens") 319) (.ref 217)),
  (224, cdo [(.str (sn "category") 550), (.str (sn "CatList.category") 551), (.str (sn "/claim/cut.py") 552), (.int 101 0), (.int 2 0), (.int 0 0), (.int 0 0), (.int 3 0), (.ref 219),
      (.bool true), (.int 181 0), (.ref 220), .none, (.ref 221), (.ref 222), (.ref 223), (.int 555 0), (.int 101 0), (.str (sn "/claim/cut.py") 556)]),
  (225, fo (sn "category") (sn "CatList.category") (cl 26 1) .none (.str (sn "gluepage.tokens") 319) (.ref 224)),
  (231, cdo [(.str (sn "set") 558), (.str (sn "CatList.set") 559), (.str (sn "/claim/cut.py") 560), (.int 106 0), (.int 3 0), (.int 0 0), (.int 0 0), (.int 3 0), (.ref 226), (.bool
      true), (.int 181 0), (.ref 227), .none, (.ref 228), (.ref 229), (.ref 230), (.int 564 0), (.int 106 0), (.str (sn "/claim/cut.py") 565)]),
  (232, fo (sn "set") (sn "CatList.set") (cl 26 2) .none (.str (sn "gluepage.tokens") 319) (.ref 231)),
  (234, nso P 4 [((sn "__module__"), 539, (.str (sn "gluepage.tokens") 319)), ((sn "__firstlineno__"), 543, (.int 91 542)), ((sn "__init__"), 549, (.ref 218)), ((sn "category"), 557,
      (.ref 225)), ((sn "set"), 566, (.ref 232)), ((sn "__static_attributes__"), 568, (.ref 233)), ((sn "__dict__"), 570, (.ref 236)), ((sn "__weakref__"), 572, (.ref 237)), ((sn
      "__doc__"), 573, .none)]),
  (235, clo (sn "CatList") 235 234 #[none, none, some (.str (sn "CatList") 532), some (.str (sn "CatList") 540), some (.builtin "object.__new__"), some (.bool true)]),
  (240, tupo [.none]),
  (246, cdo [(.str (sn "is_letter") 576), (.str (sn "is_letter") 577), (.str (sn "/claim/cut.py") 578), (.int 110 0), (.int 2 0), (.int 0 0), (.int 0 0), (.int 3 0), (.ref 241),
      (.bool true), (.int 181 0), (.ref 242), .none, (.ref 243), (.ref 244), (.ref 245), (.int 581 0), (.int 110 0), (.str (sn "/claim/cut.py") 582)]),
  (247, fo (sn "is_letter") (sn "is_letter") (tl 27) (.ref 240) (.str (sn "gluepage.tokens") 319) (.ref 246)),
  (253, cdo [(.str (sn "escape_text") 584), (.str (sn "escape_text") 585), (.str (sn "/claim/cut.py") 586), (.int 114 0), (.int 1 0), (.int 0 0), (.int 0 0), (.int 3 0), (.ref 248),
      (.bool true), (.int 181 0), (.ref 249), .none, (.ref 250), (.ref 251), (.ref 252), (.int 588 0), (.int 114 0), (.str (sn "/claim/cut.py") 589)]),
  (254, fo (sn "escape_text") (sn "escape_text") (tl 28) .none (.str (sn "gluepage.tokens") 319) (.ref 253)),
  (255, tupo [(.int 92 591)]),
  (261, cdo [(.str (sn "name_text") 592), (.str (sn "name_text") 593), (.str (sn "/claim/cut.py") 594), (.int 118 0), (.int 2 0), (.int 0 0), (.int 0 0), (.int 3 0), (.ref 256),
      (.bool true), (.int 181 0), (.ref 257), .none, (.ref 258), (.ref 259), (.ref 260), (.int 598 0), (.int 118 0), (.str (sn "/claim/cut.py") 599)]),
  (262, fo (sn "name_text") (sn "name_text") (tl 29) (.ref 255) (.str (sn "gluepage.tokens") 319) (.ref 261)),
  (268, cdo [(.str (sn "end_mark_text") 601), (.str (sn "end_mark_text") 602), (.str (sn "/claim/cut.py") 603), (.int 123 0), (.int 1 0), (.int 0 0), (.int 0 0), (.int 3 0), (.ref
      263), (.bool true), (.int 181 0), (.ref 264), .none, (.ref 265), (.ref 266), (.ref 267), (.int 605 0), (.int 123 0), (.str (sn "/claim/cut.py") 606)]),
  (269, fo (sn "end_mark_text") (sn "end_mark_text") (tl 30) .none (.str (sn "gluepage.tokens") 319) (.ref 268)),
  (270, tupo [(.int 92 608), .none]),
  (276, cdo [(.str (sn "show_token") 609), (.str (sn "show_token") 610), (.str (sn "/claim/cut.py") 611), (.int 127 0), (.int 4 0), (.int 0 0), (.int 0 0), (.int 3 0), (.ref 271),
      (.bool true), (.int 181 0), (.ref 272), .none, (.ref 273), (.ref 274), (.ref 275), (.int 619 0), (.int 127 0), (.str (sn "/claim/cut.py") 620)]),
  (277, fo (sn "show_token") (sn "show_token") (tl 31) (.ref 270) (.str (sn "gluepage.tokens") 319) (.ref 276)),
  (278, tupo [(.int 92 622), .none]),
  (284, cdo [(.str (sn "show_tokens") 623), (.str (sn "show_tokens") 624), (.str (sn "/claim/cut.py") 625), (.int 143 0), (.int 4 0), (.int 0 0), (.int 0 0), (.int 3 0), (.ref 279),
      (.bool true), (.int 181 0), (.ref 280), .none, (.ref 281), (.ref 282), (.ref 283), (.int 633 0), (.int 143 0), (.str (sn "/claim/cut.py") 634)]),
  (285, fo (sn "show_tokens") (sn "show_tokens") (tl 32) (.ref 278) (.str (sn "gluepage.tokens") 319) (.ref 284)),
  (295, cdo [(.str (sn "hex_value") 644), (.str (sn "hex_value") 645), (.str (sn "/claim/cut.py") 646), (.int 153 0), (.int 1 0), (.int 0 0), (.int 0 0), (.int 3 0), (.ref 290),
      (.bool true), (.int 181 0), (.ref 291), .none, (.ref 292), (.ref 293), (.ref 294), (.int 648 0), (.int 153 0), (.str (sn "/claim/cut.py") 649)]),
  (296, fo (sn "hex_value") (sn "hex_value") (tl 35) .none (.str (sn "gluepage.lines") 636) (.ref 295)),
  (302, cdo [(.str (sn "written_otherwise") 651), (.str (sn "written_otherwise") 652), (.str (sn "/claim/cut.py") 653), (.int 159 0), (.int 2 0), (.int 0 0), (.int 0 0), (.int 3 0),
      (.ref 297), (.bool true), (.int 181 0), (.ref 298), .none, (.ref 299), (.ref 300), (.ref 301), (.int 660 0), (.int 159 0), (.str (sn "/claim/cut.py") 661)]),
  (303, fo (sn "written_otherwise") (sn "written_otherwise") (tl 36) .none (.str (sn "gluepage.lines") 636) (.ref 302)),
  (311, tupo [(.int 13 675)]),
  (317, cdo [(.str (sn "__init__") 676), (.str (sn "Lines.__init__") 677), (.str (sn "/claim/cut.py") 678), (.int 173 0), (.int 4 0), (.int 0 0), (.int 0 0), (.int 3 0), (.ref 312),
      (.bool true), (.int 181 0), (.ref 313), .none, (.ref 314), (.ref 315), (.ref 316), (.int 683 0), (.int 173 0), (.str (sn "/claim/cut.py") 684)]),
  (318, fo (sn "__init__") (sn "Lines.__init__") (cl 37 0) (.ref 311) (.str (sn "gluepage.lines") 636) (.ref 317)),
  (324, cdo [(.str (sn "stop") 686), (.str (sn "Lines.stop") 687), (.str (sn "/claim/cut.py") 688), (.int 186 0), (.int 1 0), (.int 0 0), (.int 0 0), (.int 3 0), (.ref 319), (.bool
      true), (.int 181 0), (.ref 320), .none, (.ref 321), (.ref 322), (.ref 323), (.int 690 0), (.int 186 0), (.str (sn "/claim/cut.py") 691)]),
  (325, fo (sn "stop") (sn "Lines.stop") (cl 37 1) .none (.str (sn "gluepage.lines") 636) (.ref 324)),
  (331, cdo [(.str (sn "next") 693), (.str (sn "Lines.next") 694), (.str (sn "/claim/cut.py") 695), (.int 189 0), (.int 2 0), (.int 0 0), (.int 0 0), (.int 3 0), (.ref 326), (.bool
      true), (.int 181 0), (.ref 327), .none, (.ref 328), (.ref 329), (.ref 330), (.int 700 0), (.int 189 0), (.str (sn "/claim/cut.py") 701)]),
  (332, fo (sn "next") (sn "Lines.next") (cl 37 2) .none (.str (sn "gluepage.lines") 636) (.ref 331)),
  (338, cdo [(.str (sn "begin_row") 703), (.str (sn "Lines.begin_row") 704), (.str (sn "/claim/cut.py") 705), (.int 198 0), (.int 1 0), (.int 0 0), (.int 0 0), (.int 3 0), (.ref 333),
      (.bool true), (.int 181 0), (.ref 334), .none, (.ref 335), (.ref 336), (.ref 337), (.int 709 0), (.int 198 0), (.str (sn "/claim/cut.py") 710)]),
  (339, fo (sn "begin_row") (sn "Lines.begin_row") (cl 37 3) .none (.str (sn "gluepage.lines") 636) (.ref 338)),
  (345, cdo [(.str (sn "read_token") 712), (.str (sn "Lines.read_token") 713), (.str (sn "/claim/cut.py") 714), (.int 216 0), (.int 2 0), (.int 0 0), (.int 0 0), (.int 3 0), (.ref
      340), (.bool true), (.int 181 0), (.ref 341), .none, (.ref 342), (.ref 343), (.ref 344), (.int 718 0), (.int 216 0), (.str (sn "/claim/cut.py") 719)]),
  (346, fo (sn "read_token") (sn "Lines.read_token") (cl 37 4) .none (.str (sn "gluepage.lines") 636) (.ref 345)),
  (352, cdo [(.str (sn "looked_at") 721), (.str (sn "Lines.looked_at") 722), (.str (sn "/claim/cut.py") 723), (.int 225 0), (.int 3 0), (.int 0 0), (.int 0 0), (.int 3 0), (.ref 347),
      (.bool true), (.int 181 0), (.ref 348), .none, (.ref 349), (.ref 350), (.ref 351), (.int 730 0), (.int 225 0), (.str (sn "/claim/cut.py") 731)]),
  (353, fo (sn "looked_at") (sn "Lines.looked_at") (cl 37 5) .none (.str (sn "gluepage.lines") 636) (.ref 352)),
  (359, cdo [(.str (sn "step") 733), (.str (sn "Lines.step") 734), (.str (sn "/claim/cut.py") 735), (.int 236 0), (.int 2 0), (.int 0 0), (.int 0 0), (.int 3 0), (.ref 354), (.bool
      true), (.int 181 0), (.ref 355), .none, (.ref 356), (.ref 357), (.ref 358), (.int 740 0), (.int 236 0), (.str (sn "/claim/cut.py") 741)]),
  (360, fo (sn "step") (sn "Lines.step") (cl 37 6) .none (.str (sn "gluepage.lines") 636) (.ref 359)),
  (366, cdo [(.str (sn "end_of_row") 743), (.str (sn "Lines.end_of_row") 744), (.str (sn "/claim/cut.py") 745), (.int 258 0), (.int 1 0), (.int 0 0), (.int 0 0), (.int 3 0), (.ref
      361), (.bool true), (.int 181 0), (.ref 362), .none, (.ref 363), (.ref 364), (.ref 365), (.int 747 0), (.int 258 0), (.str (sn "/claim/cut.py") 748)]),
  (367, fo (sn "end_of_row") (sn "Lines.end_of_row") (cl 37 7) .none (.str (sn "gluepage.lines") 636) (.ref 366)),
  (373, cdo [(.str (sn "control_word") 750), (.str (sn "Lines.control_word") 751), (.str (sn "/claim/cut.py") 752), (.int 266 0), (.int 2 0), (.int 0 0), (.int 0 0), (.int 3 0), (.ref
      368), (.bool true), (.int 181 0), (.ref 369), .none, (.ref 370), (.ref 371), (.ref 372), (.int 762 0), (.int 266 0), (.str (sn "/claim/cut.py") 763)]),
  (374, fo (sn "control_word") (sn "Lines.control_word") (cl 37 8) .none (.str (sn "gluepage.lines") 636) (.ref 373)),
  (376, nso P 4 [((sn "__module__"), 670, (.str (sn "gluepage.lines") 636)), ((sn "__firstlineno__"), 674, (.int 171 673)), ((sn "__init__"), 685, (.ref 318)), ((sn "stop"), 692,
      (.ref 325)), ((sn "next"), 702, (.ref 332)), ((sn "begin_row"), 711, (.ref 339)), ((sn "read_token"), 720, (.ref 346)), ((sn "looked_at"), 732, (.ref 353)), ((sn "step"), 742,
      (.ref 360)), ((sn "end_of_row"), 749, (.ref 367)), ((sn "control_word"), 764, (.ref 374)), ((sn "__static_attributes__"), 774, (.ref 375)), ((sn "__dict__"), 776, (.ref 378)),
      ((sn "__weakref__"), 778, (.ref 379)), ((sn "__doc__"), 779, .none)]),
  (377, clo (sn "Lines") 377 376 #[none, none, some (.str (sn "Lines") 663), some (.str (sn "Lines") 671), some (.builtin "object.__new__"), some (.bool true)]),
  (382, tupo tv382),
  (383, tupo tv383),
  (389, cdo [(.str (sn "_law_plain") 810), (.str (sn "_law_plain") 811), (.str (sn "/claim/cut.py") 812), (.int 287 0), (.int 0 0), (.int 0 0), (.int 0 0), (.int 3 0), (.ref 384),
      (.bool true), (.int 181 0), (.ref 385), .none, (.ref 386), (.ref 387), (.ref 388), (.int 813 0), (.int 287 0), (.str (sn "/claim/cut.py") 814)]),
  (390, fo (sn "_law_plain") (sn "_law_plain") (tl 41) .none (.str (sn "law_sq0035_01") 782) (.ref 389)),
  (394, cdo [(.str (sn "_law_box") 818), (.str (sn "_law_box") 819), (.str (sn "/claim/cut.py") 820), (.int 290 0), (.int 2 0), (.int 0 0), (.int 0 0), (.int 3 0), (.ref 391), (.bool
      true), (.int 181 0), (.ref 392), .none, .none, .none, (.ref 393), (.int 821 0), (.int 290 0), (.str (sn "/claim/cut.py") 822)]),
  (395, fo (sn "_law_box") (sn "_law_box") (tl 43) .none (.str (sn "law_sq0035_01") 782) (.ref 394)),
  (401, cdo [(.str (sn "_law_take") 824), (.str (sn "_law_take") 825), (.str (sn "/claim/cut.py") 826), (.int 296 0), (.int 2 0), (.int 0 0), (.int 0 0), (.int 3 0), (.ref 396),
      (.bool true), (.int 181 0), (.ref 397), .none, (.ref 398), (.ref 399), (.ref 400), (.int 831 0), (.int 296 0), (.str (sn "/claim/cut.py") 832)]),
  (402, fo (sn "_law_take") (sn "_law_take") (tl 44) .none (.str (sn "law_sq0035_01") 782) (.ref 401)),
  (408, cdo [(.str (sn "_law_category") 834), (.str (sn "_law_category") 835), (.str (sn "/claim/cut.py") 836), (.int 304 0), (.int 2 0), (.int 0 0), (.int 0 0), (.int 3 0), (.ref
      403), (.bool true), (.int 181 0), (.ref 404), .none, (.ref 405), (.ref 406), (.ref 407), (.int 839 0), (.int 304 0), (.str (sn "/claim/cut.py") 840)]),
  (409, fo (sn "_law_category") (sn "_law_category") (tl 45) .none (.str (sn "law_sq0035_01") 782) (.ref 408)),
  (413, cdo [(.str (sn "_law_drawn") 842), (.str (sn "_law_drawn") 843), (.str (sn "/claim/cut.py") 844), (.int 310 0), (.int 2 0), (.int 0 0), (.int 0 0), (.int 3 0), (.ref 410),
      (.bool true), (.int 181 0), (.ref 411), .none, .none, .none, (.ref 412), (.int 845 0), (.int 310 0), (.str (sn "/claim/cut.py") 846)]),
  (414, fo (sn "_law_drawn") (sn "_law_drawn") (tl 46) .none (.str (sn "law_sq0035_01") 782) (.ref 413)),
  (420, cdo [(.str (sn "_law_row") 848), (.str (sn "_law_row") 849), (.str (sn "/claim/cut.py") 850), (.int 320 0), (.int 2 0), (.int 0 0), (.int 0 0), (.int 3 0), (.ref 415), (.bool
      true), (.int 181 0), (.ref 416), .none, (.ref 417), (.ref 418), (.ref 419), (.int 860 0), (.int 320 0), (.str (sn "/claim/cut.py") 861)]),
  (421, fo (sn "_law_row") (sn "_law_row") (tl 47) .none (.str (sn "law_sq0035_01") 782) (.ref 420)),
  (427, cdo [(.str (sn "_law_written") 863), (.str (sn "_law_written") 864), (.str (sn "/claim/cut.py") 865), (.int 337 0), (.int 3 0), (.int 0 0), (.int 0 0), (.int 3 0), (.ref 422),
      (.bool true), (.int 181 0), (.ref 423), .none, (.ref 424), (.ref 425), (.ref 426), (.int 871 0), (.int 337 0), (.str (sn "/claim/cut.py") 872)]),
  (428, fo (sn "_law_written") (sn "_law_written") (tl 48) .none (.str (sn "law_sq0035_01") 782) (.ref 427)),
  (432, cdo [(.str (sn "_law_read") 874), (.str (sn "_law_read") 875), (.str (sn "/claim/cut.py") 876), (.int 343 0), (.int 3 0), (.int 0 0), (.int 0 0), (.int 3 0), (.ref 429),
      (.bool true), (.int 181 0), (.ref 430), .none, .none, .none, (.ref 431), (.int 877 0), (.int 343 0), (.str (sn "/claim/cut.py") 878)]),
  (433, fo (sn "_law_read") (sn "_law_read") (tl 49) .none (.str (sn "law_sq0035_01") 782) (.ref 432)),
  (437, cdo [(.str (sn "law") 880), (.str (sn "law") 881), (.str (sn "/claim/cut.py") 882), (.int 350 0), (.int 1 0), (.int 0 0), (.int 0 0), (.int 3 0), (.ref 434), (.bool true),
      (.int 181 0), (.ref 435), .none, .none, .none, (.ref 436), (.int 883 0), (.int 350 0), (.str (sn "/claim/cut.py") 884)]),
  (438, fo (sn "law") (sn "law") (tl 50) .none (.str (sn "law_sq0035_01") 782) (.ref 437))]
noncomputable def addrs : List Addr := [1, 2, 3, 96, 97, 103, 104, 110, 111, 124, 125, 126, 127, 133, 134, 140, 141, 149, 155, 156, 162, 163, 169, 170, 176, 177, 183, 184, 186, 187, 197, 198, 204, 205, 213, 217, 218, 224, 225, 231, 232, 234, 235, 240, 246, 247, 253, 254, 255, 261, 262, 268, 269, 270, 276, 277, 278, 284, 285, 295, 296, 302, 303, 311, 317, 318, 324, 325, 331, 332, 338, 339, 345, 346, 352, 353, 359, 360, 366, 367, 373, 374, 376, 377, 382, 383, 389, 390, 394, 395, 401, 402, 408, 409, 413, 414, 420, 421, 427, 428, 432, 433, 437, 438]
theorem addrs_ok (P : Params) : addrs = (K P).map (·.1) := by kernel_rfl

end Mine

set_option tactic.hygienic true
namespace Mine
open PySem PySem.W PySem.Calls PyProof.Rows

noncomputable def lf (o : Obj) : BT := .node o .nil .nil
noncomputable def tu : Obj := tupo []
noncomputable def fd (c : Value) (vs : List Value) : Obj := { cls := c, data := .fields vs.toArray }
noncomputable def fl : Obj := fd .none []
noncomputable def fr (a b : Addr) (n : Str) (t : Tok) : Obj := { cls := .type "frame", slots := #[some (.ref a), some (.ref 3), some (.ref b), none, some (.str n t), none, some (.ref 0)] }
noncomputable def hf (name qual : Str) (st : Option Stmt) : Obj := { cls := .none, data := .func { name := name, qualname := qual, params := fParams st, body := .stmts (fBody st), scope := fScope st, globals := 0, closure := [], defaults := .none, kwdefaults := .none } }
noncomputable def cz (name : Str) (bs mro : List Value) (ns : Addr) (qual : Str) (sl : Array (Option Value)) (sub : List Value := []) : Obj := { cls := .type "type", data := .cls { name := name, bases := bs, mro := mro, ns := ns, qualname := qual, subclasses := sub }, slots := sl }
noncomputable def co (name qual : Str) (t : Nat) (line argc fl : Int) (a : Addr) (b : Bool) (c : Addr) (vs : List Value) (u : Int) : Obj :=
  cdo ([.str name t, .str qual (t + 1), .str (sn "/claim/cut.py") (t + 2), .int line 0, .int argc 0, .int 0 0, .int 0 0, .int fl 0, .ref a, .bool b, .int 181 0, .ref c, .none] ++ vs ++ [.int u 0, .int line 0, .str (sn "/claim/cut.py") (u.toNat + 1)])
noncomputable def ka (P : Params) (a : Addr) : Obj := ((K P).lookup a).getD default
noncomputable def big (P : Params) (x y : Obj) (z : List Value) : BT :=
  .node (boot_o_0 P) (.node (boot_o_1 P) (.node x (.node (boot_o_7 P) (.node tu (.node fl (.node (nso P 2 [((sn "__module__"), 247, (.str (sn "gluepage.errors") 194)), ((sn
 "__firstlineno__"), 251, (.int 11 250)), ((sn "__static_attributes__"), 252, (.ref 62)), ((sn "__doc__"), 253, .none)]) (.node (ka P 127) (lf (ka P 255)) (lf (ka P 383)))
 (.node (fd (.type "builtin_function_or_method") [(.builtin "object.__init_subclass__"), (.ref 187)]) (lf tu) .nil)) (.node (hf (sn "is_whole") (sn "is_whole") (tl 9))
 (.node (tupo [(.str (sn "self") 475), (.str (sn "text") 476)]) (lf (fd (.type "tuple_iterator") [.none, (.int 3 0)])) (lf tu)) (.node (hf (sn "category") (sn
 "CatList.category") (cl 26 1)) (lf (hf (sn "looked_at") (sn "Lines.looked_at") (cl 37 5))) .nil))) (.node fl (.node (tupo [(.ref 39)]) (.node (fd (.type
 "builtin_function_or_method") [(.builtin "type.__prepare__"), (.type "type")]) (lf tu) (lf tu)) (.node (fd (.type "builtin_function_or_method") [(.builtin
 "type.__prepare__"), (.type "type")]) (lf (tupo [(.str (sn "self") 706), (.str (sn "end") 707), (.str (sn "codes") 708)])) .nil)) (.node (ka P 111) (.node (hf (sn "text")
 (sn "Names.text") (cl 23 3)) (lf (ka P 303)) (lf (hf (sn "_law_read") (sn "_law_read") (tl 49)))) (.node (fd (.type "builtin_function_or_method") [(.builtin
 "object.__init_subclass__"), (.ref 235)]) (lf (ka P 367)) .nil)))) (.node (fd (.type "builtin_function_or_method") [(.builtin "type.__prepare__"), (.type "type")]) (.node
 (cz (sn "PageError") [(.type "ValueError")] [(.ref 39), (.type "ValueError"), (.type "Exception"), (.type "BaseException"), (.type "object")] 38 (sn "PageError") #[some
 (.ref 22), none, some (.str (sn "PageError") 196), some (.str (sn "PageError") 204), some (.builtin "ValueError.__new__"), some (.bool true)] z) (.node fl (.node tu (lf
 tu) (lf tu)) (.node tu (lf fl) .nil)) (.node (ka P 103) (.node tu (lf (ka P 295)) (lf fl)) (.node (ka P 231) (lf (ka P 359)) .nil))) (.node (tupo [(.ref 39)]) (.node (nso
 P 2 [((sn "__module__"), 279, (.str (sn "gluepage.errors") 194)), ((sn "__firstlineno__"), 283, (.int 15 282)), ((sn "__static_attributes__"), 284, (.ref 86)), ((sn
 "__doc__"), 285, .none)]) (.node fl (lf tu) (lf (hf (sn "_law_category") (sn "_law_category") (tl 45)))) (.node fl (lf tu) .nil)) (.node (fd (.type "StopIteration")
 [(.ref 118), .none, .none, .none, (.bool false), .none]) (.node (ka P 183) (lf (ka P 311)) .nil) (.node (ka P 247) (lf (tupo [(.str (sn "at") 765), (.str (sn "codes")
 766), (.str (sn "end_line") 767), (.str (sn "names") 768), (.str (sn "row") 769), (.str (sn "spot") 770), (.str (sn "state") 771), (.str (sn "stopped") 772), (.str (sn
 "text") 773)])) .nil))))) (.node tu (.node (hf (sn "_wall") (sn "_wall") (tl 0)) (.node (co (sn "__init__") (sn "PageError.__init__") 209 7 2 3 30 true 31 [(.ref 32),
 (.ref 33), (.ref 34)] 214) (.node (tupo [(.ref 39)]) (.node tu (lf tu) (lf tu)) (.node tu (lf (hf (sn "stop") (sn "Lines.stop") (cl 37 1))) .nil)) (.node fl (.node (ka P
 163) (lf fl) (lf (hf (sn "_law_row") (sn "_law_row") (tl 47)))) (.node fl (lf fl) .nil))) (.node (nso P 2 [((sn "__module__"), 231, (.str (sn "gluepage.errors") 194)),
 ((sn "__firstlineno__"), 235, (.int 9 234)), ((sn "__static_attributes__"), 236, (.ref 50)), ((sn "__doc__"), 237, .none)]) (.node fl (.node (co (sn "Names") (sn "Names")
 454 48 0 0 145 false 146 [.none, .none, .none] 457) (lf (hf (sn "show_token") (sn "show_token") (tl 31))) (lf tu)) (.node (co (sn "CatList") (sn "CatList") 534 91 0 0 209
 false 210 [.none, .none, .none] 537) (lf (ka P 339)) .nil)) (.node (fd (.type "StopIteration") [(.ref 114), .none, .none, .none, (.bool false), .none]) (.node fl (lf tu)
 (lf fl)) (.node (tupo [(.str (sn "code") 579), (.str (sn "letters") 580)]) (lf tu) .nil)))) (.node (co (sn "PageError") (sn "PageError") 198 5 0 0 25 false 26 [.none,
 .none, .none] 201) (.node (tupo [(.ref 39)]) (.node (nso P 2 [((sn "__module__"), 263, (.str (sn "gluepage.errors") 194)), ((sn "__firstlineno__"), 267, (.int 13 266)),
 ((sn "__static_attributes__"), 268, (.ref 74)), ((sn "__doc__"), 269, .none)]) (.node (hf (sn "check_text") (sn "check_text") (tl 22)) (lf (hf (sn "end_mark_text") (sn
 "end_mark_text") (tl 30))) (lf (ka P 395))) (.node (hf (sn "plain_categories") (sn "plain_categories") (tl 25)) (lf (ka P 331)) .nil)) (.node (tupo [(.str (sn "value")
 315)]) (.node tu (lf (tupo [(.str (sn "codes") 654), (.str (sn "place") 655), (.str (sn "code") 656), (.str (sn "mark") 657), (.str (sn "high") 658), (.str (sn "low")
 659)])) (lf (ka P 427))) (.node (ka P 235) (lf (tupo [(.str (sn "self") 746)])) .nil))) (.node fl (.node tu (.node (ka P 155) (lf (hf (sn "show_tokens") (sn
 "show_tokens") (tl 32))) (lf fl)) (.node tu (lf tu) .nil)) (.node (fd (.type "StopIteration") [(.ref 122), .none, .none, .none, (.bool false), .none]) (.node (ka P 187)
 (lf tu) .nil) (.node tu (lf (fd (.type "getset_descriptor") [(.str (sn "__weakref__") 777), (.ref 377), (.builtin "ExceptionGroup.__weakref__"), .none])) .nil))))))
 (.node (boot_o_5 P) (.node (boot_o_9 P) (.node (tupo [(.str (sn "k") 190)]) (.node tu (.node (fd (.type "super") [(.ref 64), (.ref 64), (.ref 64)]) (.node fl (lf fl) (lf
 fl)) (.node fl (lf (tupo [(.str (sn "self") 689)])) .nil)) (.node (ka P 97) (.node (hf (sn "find") (sn "Names.find") (cl 23 1)) (lf (fd (.type "StopIteration") [(.ref
 288), .none, .none, .none, (.bool false), .none])) (lf (tupo [(.str (sn "script") 851), (.str (sn "changes") 852), (.str (sn "found") 853), (.str (sn "skips") 854), (.str
 (sn "last") 855), (.str (sn "k") 856), (.str (sn "box") 857), (.str (sn "lap") 858), (.str (sn "token") 859)]))) (.node (ka P 225) (lf (ka P 353)) .nil))) (.node (fr 48
 45 (sn "gluepage.errors") 194) (.node (nso P 4 [((sn "__module__"), 279, (.str (sn "gluepage.errors") 194)), ((sn "__qualname__"), 281, (.str (sn "TooMuch") 280)), ((sn
 "__firstlineno__"), 283, (.int 15 282)), ((sn "__static_attributes__"), 284, (.ref 86))]) (.node tu (lf (tupo [(.str (sn "token") 612), (.str (sn "names") 613), (.str (sn
 "escape") 614), (.str (sn "letters") 615), (.str (sn "category") 616), (.str (sn "code") 617), (.str (sn "name") 618)])) (lf (ka P 401))) (.node tu (lf (hf (sn
 "begin_row") (sn "Lines.begin_row") (cl 37 3))) .nil)) (.node (fd (.type "tuple_iterator") [.none, (.int 8 0)]) (.node (ka P 177) (lf (fd (.type
 "builtin_function_or_method") [(.builtin "type.__prepare__"), (.type "type")])) (lf (ka P 433))) (.node tu (lf fl) .nil)))) (.node tu (.node (fd (.type "super") [(.ref
 39), (.ref 39), (.ref 39)]) (.node (fr 72 69 (sn "gluepage.errors") 194) (.node (tupo [(.str (sn "text") 447), (.str (sn "mark") 448)]) (lf (tupo [(.str (sn "number")
 604)])) (lf (hf (sn "_law_box") (sn "_law_box") (tl 43)))) (.node (tupo [(.str (sn "found") 525), (.str (sn "place") 526), (.str (sn "code") 527), (.str (sn "category")
 528)]) (lf tu) .nil)) (.node tu (.node (ka P 169) (lf tu) (lf tu)) (.node (tupo [(.str (sn "rows") 567)]) (lf tu) .nil))) (.node (nso P 4 [((sn "__module__"), 247, (.str
 (sn "gluepage.errors") 194)), ((sn "__qualname__"), 249, (.str (sn "Overflow") 248)), ((sn "__firstlineno__"), 251, (.int 11 250)), ((sn "__static_attributes__"), 252,
 (.ref 62))]) (.node (fd (.type "super") [(.ref 88), (.ref 88), (.ref 88)]) (.node tu (lf (tupo [(.str (sn "tokens") 626), (.str (sn "names") 627), (.str (sn "escape")
 628), (.str (sn "letters") 629), (.str (sn "found") 630), (.str (sn "token") 631), (.str (sn "part") 632)])) (lf (ka P 409))) (.node (ka P 217) (lf (ka P 345)) .nil))
 (.node (fd (.type "tuple_iterator") [.none, (.int 5 0)]) (.node (tupo [(.str (sn "most") 504), (.str (sn "numbers") 505), (.str (sn "texts") 506)]) (lf fl) .nil) (.node
 fl (lf (ka P 377)) .nil))))) (.node (co (sn "<module>") (sn "<module>") 182 1 0 0 11 false 12 [.none, .none, .none] 185) (.node (fo (sn "_wall") (sn "_wall") (tl 0) .none
 (.str (sn "__main__") 164) (.ref 20)) (.node (tupo [(.str (sn "reason") 217)]) (.node (nso P 4 [((sn "__module__"), 263, (.str (sn "gluepage.errors") 194)), ((sn
 "__qualname__"), 265, (.str (sn "BadCharacter") 264)), ((sn "__firstlineno__"), 267, (.int 13 266)), ((sn "__static_attributes__"), 268, (.ref 74))]) (.node (ka P 133)
 (lf (ka P 261)) (lf (ka P 389))) (.node (ka P 197) (lf (ka P 325)) .nil)) (.node tu (.node fl (lf tu) (lf (ka P 421))) (.node tu (lf tu) .nil))) (.node (fd (.type
 "super") [(.ref 52), (.ref 52), (.ref 52)]) (.node (fr 84 81 (sn "gluepage.errors") 194) (.node (ka P 149) (lf (ka P 277)) (lf (tupo [(.str (sn "changes") 837), (.str (sn
 "code") 838)]))) (.node (ka P 213) (lf fl) .nil)) (.node (fd (.type "tuple_iterator") [.none, (.int 8 0)]) (.node tu (lf (co (sn "Lines") (sn "Lines") 665 171 0 0 307
 false 308 [.none, .none, .none] 668)) (lf (ka P 437))) (.node (hf (sn "is_letter") (sn "is_letter") (tl 27)) (lf (ka P 373)) .nil)))) (.node (tupo [(.str (sn "") 208)])
 (.node (nso P 4 [((sn "__module__"), 231, (.str (sn "gluepage.errors") 194)), ((sn "__qualname__"), 233, (.str (sn "BadArgument") 232)), ((sn "__firstlineno__"), 235,
 (.int 9 234)), ((sn "__static_attributes__"), 236, (.ref 50))]) (.node (fd (.type "super") [(.ref 76), (.ref 76), (.ref 76)]) (.node (ka P 141) (lf (ka P 269)) (lf fl))
 (.node (ka P 205) (lf tu) .nil)) (.node (hf (sn "check_number") (sn "check_number") (tl 11)) (.node (tupo [(.str (sn "self") 492), (.str (sn "number") 493)]) (lf (hf (sn
 "written_otherwise") (sn "written_otherwise") (tl 36))) (lf tu)) (.node (fd (.type "getset_descriptor") [(.str (sn "__weakref__") 571), (.ref 235), (.builtin
 "ExceptionGroup.__weakref__"), .none]) (lf (hf (sn "end_of_row") (sn "Lines.end_of_row") (cl 37 7))) .nil))) (.node (fr 60 57 (sn "gluepage.errors") 194) (.node (tupo
 [(.str (sn "value") 299), (.str (sn "low") 300), (.str (sn "high") 301)]) (.node tu (lf (ka P 285)) (lf (ka P 413))) (.node (tupo [(.str (sn "self") 553), (.str (sn
 "code") 554)]) (lf (tupo [(.str (sn "self") 724), (.str (sn "place") 725), (.str (sn "cats") 726), (.str (sn "code") 727), (.str (sn "category") 728), (.str (sn "places")
 729)])) .nil)) (.node (ka P 125) (.node (fd (.type "getset_descriptor") [(.str (sn "__weakref__") 510), (.ref 187), (.builtin "ExceptionGroup.__weakref__"), .none]) (lf
 (ka P 317)) .nil) (.node (ka P 253) (lf (fd (.type "builtin_function_or_method") [(.builtin "object.__init_subclass__"), (.ref 377)])) .nil))))))) (.node (boot_o_2 P)
 (.node (boot_o_4 P) (.node (boot_o_8 P) (.node fl (.node (tupo [(.str (sn "self") 212), (.str (sn "reason") 213)]) (.node (cz (sn "Overflow") [(.ref 39)] [(.ref 64),
 (.ref 39), (.type "ValueError"), (.type "Exception"), (.type "BaseException"), (.type "object")] 63 (sn "Overflow") #[some (.ref 55), none, some (.str (sn "Overflow")
 240), some (.str (sn "Overflow") 248), some (.builtin "ValueError.__new__"), some (.bool true)]) (.node tu (lf tu) (lf tu)) (.node tu (lf fl) .nil)) (.node (ka P 96)
 (.node tu (lf tu) (lf fl)) (.node (ka P 224) (lf (ka P 352)) .nil))) (.node (co (sn "BadArgument") (sn "BadArgument") 226 9 0 0 46 false 47 [.none, .none, .none] 229)
 (.node (fd (.type "builtin_function_or_method") [(.builtin "type.__prepare__"), (.type "type")]) (.node (nso P 9 [((sn "__module__"), 459, (.str (sn "gluepage.tokens")
 319)), ((sn "__qualname__"), 461, (.str (sn "Names") 460)), ((sn "__firstlineno__"), 463, (.int 48 462)), ((sn "__init__"), 471, (.ref 156)), ((sn "find"), 479, (.ref
 163)), ((sn "number"), 488, (.ref 170)), ((sn "text"), 496, (.ref 177)), ((sn "count"), 503, (.ref 184)), ((sn "__static_attributes__"), 507, (.ref 185))]) (lf fl) (lf
 (hf (sn "_law_take") (sn "_law_take") (tl 44)))) (.node (nso P 7 [((sn "__module__"), 539, (.str (sn "gluepage.tokens") 319)), ((sn "__qualname__"), 541, (.str (sn
 "CatList") 540)), ((sn "__firstlineno__"), 543, (.int 91 542)), ((sn "__init__"), 549, (.ref 218)), ((sn "category"), 557, (.ref 225)), ((sn "set"), 566, (.ref 232)),
 ((sn "__static_attributes__"), 568, (.ref 233))]) (lf tu) .nil)) (.node (tupo [(.int 0 321), (.int 1 322), (.int 2 323), (.int 3 324), (.int 4 325), (.int 5 326), (.int 6
 327), (.int 7 328)]) (.node (ka P 176) (lf tu) (lf (ka P 432))) (.node (ka P 240) (lf tu) .nil)))) (.node (nso P 5 [((sn "__module__"), 203, (.str (sn "gluepage.errors")
 194)), ((sn "__qualname__"), 205, (.str (sn "PageError") 204)), ((sn "__firstlineno__"), 207, (.int 5 206)), ((sn "__init__"), 216, (.ref 36)), ((sn
 "__static_attributes__"), 218, (.ref 37))]) (.node (fd (.type "getset_descriptor") [(.str (sn "__weakref__") 219), (.ref 39), (.builtin "ExceptionGroup.__weakref__"),
 .none]) (.node (co (sn "BadCharacter") (sn "BadCharacter") 258 13 0 0 70 false 71 [.none, .none, .none] 261) (.node fl (lf fl) (lf fl)) (.node fl (lf (tupo [(.str (sn
 "self") 696), (.str (sn "cats") 697), (.str (sn "held") 698), (.str (sn "token") 699)])) .nil)) (.node (ka P 104) (.node (hf (sn "number") (sn "Names.number") (cl 23 2))
 (lf (ka P 296)) (lf (tupo [(.str (sn "token") 866), (.str (sn "escape") 867), (.str (sn "changes") 868), (.str (sn "name") 869), (.str (sn "bare") 870)]))) (.node (ka P
 232) (lf (ka P 360)) .nil))) (.node (fd (.type "builtin_function_or_method") [(.builtin "type.__prepare__"), (.type "type")]) (.node (cz (sn "TooMuch") [(.ref 39)] [(.ref
 88), (.ref 39), (.type "ValueError"), (.type "Exception"), (.type "BaseException"), (.type "object")] 87 (sn "TooMuch") #[some (.ref 79), none, some (.str (sn "TooMuch")
 272), some (.str (sn "TooMuch") 280), some (.builtin "ValueError.__new__"), some (.bool true)]) (.node (tupo [(.str (sn "self") 467), (.str (sn "most") 468)]) (lf fl) (lf
 (ka P 408))) (.node (hf (sn "__init__") (sn "CatList.__init__") (cl 26 0)) (lf (hf (sn "read_token") (sn "Lines.read_token") (cl 37 4))) .nil)) (.node (tupo [(.int 0
 353), (.int 5 354), (.int 9 355), (.int 14 356), (.int 15 357)]) (.node (ka P 184) (lf tu) .nil) (.node tu (lf (ka P 376)) .nil))))) (.node y (.node (co (sn "_wall") (sn
 "_wall") 187 1 1 3 15 true 16 [(.ref 17), (.ref 18), (.ref 19)] 191) (.node (fo (sn "__init__") (sn "PageError.__init__") (cl 2 0) (.ref 29) (.str (sn "gluepage.errors")
 194) (.ref 35)) (.node (fd (.type "builtin_function_or_method") [(.builtin "type.__prepare__"), (.type "type")]) (.node (hf (sn "is_token") (sn "is_token") (tl 21)) (lf
 (hf (sn "name_text") (sn "name_text") (tl 29))) (lf (hf (sn "_law_plain") (sn "_law_plain") (tl 41)))) (.node (hf (sn "plain_category") (sn "plain_category") (tl 24)) (lf
 (ka P 324)) .nil)) (.node (tupo [(.str (sn "value") 308)]) (.node tu (lf (tupo [(.str (sn "code") 647)])) (lf (ka P 420))) (.node (tupo [(.str (sn "self") 561), (.str (sn
 "code") 562), (.str (sn "category") 563)]) (lf (tupo [(.str (sn "self") 736), (.str (sn "cats") 737), (.str (sn "code") 738), (.str (sn "category") 739)])) .nil))) (.node
 (cz (sn "BadArgument") [(.ref 39)] [(.ref 52), (.ref 39), (.type "ValueError"), (.type "Exception"), (.type "BaseException"), (.type "object")] 51 (sn "BadArgument")
 #[some (.ref 43), none, some (.str (sn "BadArgument") 224), some (.str (sn "BadArgument") 232), some (.builtin "ValueError.__new__"), some (.bool true)]) (.node (co (sn
 "TooMuch") (sn "TooMuch") 274 15 0 0 82 false 83 [.none, .none, .none] 277) (.node (fr 147 144 (sn "gluepage.tokens") 319) (lf (ka P 276)) (lf fl)) (.node (fr 211 208 (sn
 "gluepage.tokens") 319) (lf tu) .nil)) (.node (tupo [(.int 8 337), (.int 9 338), (.int 10 339), (.int 11 340), (.int 12 341), (.int 13 342), (.int 14 343), (.int 15
 344)]) (.node (tupo [(.str (sn "self") 500)]) (lf (fd .none [(.int 173 0), (.int 4 0), (.ref 317), (.int 186 0), (.int 4 0), (.ref 324), (.int 189 0), (.int 4 0), (.ref
 331), (.int 198 0), (.int 4 0), (.ref 338), (.int 216 0), (.int 4 0), (.ref 345), (.int 225 0), (.int 4 0), (.ref 352), (.int 236 0), (.int 4 0), (.ref 359), (.int 258
 0), (.int 4 0), (.ref 366), (.int 266 0), (.int 4 0), (.ref 373)])) (lf (hf (sn "law") (sn "law") (tl 50)))) (.node tu (lf (hf (sn "control_word") (sn
 "Lines.control_word") (cl 37 8))) .nil)))) (.node (fr 27 24 (sn "gluepage.errors") 194) (.node (fd (.type "builtin_function_or_method") [(.builtin "type.__prepare__"),
 (.type "type")]) (.node (cz (sn "BadCharacter") [(.ref 39)] [(.ref 76), (.ref 39), (.type "ValueError"), (.type "Exception"), (.type "BaseException"), (.type "object")]
 75 (sn "BadCharacter") #[some (.ref 67), none, some (.str (sn "BadCharacter") 256), some (.str (sn "BadCharacter") 264), some (.builtin "ValueError.__new__"), some (.bool
 true)]) (.node (ka P 140) (lf (ka P 268)) (lf tu)) (.node (ka P 204) (lf (ka P 332)) .nil)) (.node tu (.node fl (lf tu) (lf (ka P 428))) (.node (fd (.type
 "getset_descriptor") [(.str (sn "__dict__") 569), (.ref 235), (.builtin "function.__dict__"), (.builtin "function.__dict__#set")]) (lf tu) .nil))) (.node (co (sn
 "Overflow") (sn "Overflow") 242 11 0 0 58 false 59 [.none, .none, .none] 245) (.node fl (.node (ka P 156) (lf (ka P 284)) (lf (hf (sn "_law_drawn") (sn "_law_drawn") (tl
 46)))) (.node fl (lf fl) .nil)) (.node (ka P 124) (.node (fd (.type "getset_descriptor") [(.str (sn "__dict__") 508), (.ref 187), (.builtin "function.__dict__"),
 (.builtin "function.__dict__#set")]) (lf (hf (sn "__init__") (sn "Lines.__init__") (cl 37 0))) .nil) (.node (hf (sn "escape_text") (sn "escape_text") (tl 28)) (lf (fd
 (.type "super") [(.ref 377), (.ref 377), (.ref 377)])) .nil)))))) (.node (boot_o_6 P) (.node (boot_o_10 P) (.node tu (.node (hf (sn "__init__") (sn "PageError.__init__")
 (cl 2 0)) (.node (fd (.type "builtin_function_or_method") [(.builtin "object.__init_subclass__"), (.ref 64)]) (.node (tupo [(.str (sn "token") 440)]) (lf (tupo [(.str (sn
 "name") 595), (.str (sn "escape") 596), (.str (sn "mark") 597)])) (lf tu)) (.node (tupo [(.str (sn "code") 518)]) (lf tu) .nil)) (.node tu (.node (ka P 162) (lf tu) (lf
 tu)) (.node tu (lf tu) .nil))) (.node tu (.node tu (.node (fd .none [(.int 50 0), (.int 4 0), (.ref 155), (.int 57 0), (.int 4 0), (.ref 162), (.int 61 0), (.int 4 0),
 (.ref 169), (.int 72 0), (.int 4 0), (.ref 176), (.int 77 0), (.int 4 0), (.ref 183)]) (lf tu) (lf (ka P 402))) (.node (fd .none [(.int 93 0), (.int 4 0), (.ref 217),
 (.int 101 0), (.int 4 0), (.ref 224), (.int 106 0), (.int 4 0), (.ref 231)]) (lf (ka P 338)) .nil)) (.node tu (.node tu (lf (nso P 13 [((sn "__module__"), 670, (.str (sn
 "gluepage.lines") 636)), ((sn "__qualname__"), 672, (.str (sn "Lines") 671)), ((sn "__firstlineno__"), 674, (.int 171 673)), ((sn "__init__"), 685, (.ref 318)), ((sn
 "stop"), 692, (.ref 325)), ((sn "next"), 702, (.ref 332)), ((sn "begin_row"), 711, (.ref 339)), ((sn "read_token"), 720, (.ref 346)), ((sn "looked_at"), 732, (.ref 353)),
 ((sn "step"), 742, (.ref 360)), ((sn "end_of_row"), 749, (.ref 367)), ((sn "control_word"), 764, (.ref 374)), ((sn "__static_attributes__"), 774, (.ref 375))])) (lf tu))
 (.node fl (lf (tupo [(.str (sn "self") 753), (.str (sn "cats") 754), (.str (sn "code") 755), (.str (sn "category") 756), (.str (sn "name") 757), (.str (sn "place") 758),
 (.str (sn "going") 759), (.str (sn "behind") 760), (.str (sn "token") 761)])) .nil)))) (.node (fd .none [(.int 7 0), (.int 4 0), (.ref 35)]) (.node (fd (.type
 "builtin_function_or_method") [(.builtin "object.__init_subclass__"), (.ref 39)]) (.node tu (.node tu (lf tu) (lf (ka P 394))) (.node tu (lf (hf (sn "next") (sn
 "Lines.next") (cl 37 2))) .nil)) (.node fl (.node (ka P 170) (lf fl) (lf (hf (sn "_law_written") (sn "_law_written") (tl 48)))) (.node (ka P 234) (lf fl) .nil))) (.node
 tu (.node (fd (.type "builtin_function_or_method") [(.builtin "object.__init_subclass__"), (.ref 88)]) (.node (hf (sn "__init__") (sn "Names.__init__") (cl 23 0)) (lf tu)
 (lf tu)) (.node (ka P 218) (lf (ka P 346)) .nil)) (.node tu (.node (ka P 186) (lf (tupo [(.str (sn "self") 679), (.str (sn "text") 680), (.str (sn "names") 681), (.str
 (sn "end_line") 682)])) .nil) (.node (tupo [(.str (sn "escape") 587)]) (lf (fd (.type "getset_descriptor") [(.str (sn "__dict__") 775), (.ref 377), (.builtin
 "function.__dict__"), (.builtin "function.__dict__#set")])) .nil))))) (.node (fr 13 3 (sn "__main__") 164) (.node (tupo [(.type "ValueError")]) (.node (nso P 3 [((sn
 "__module__"), 203, (.str (sn "gluepage.errors") 194)), ((sn "__firstlineno__"), 207, (.int 5 206)), ((sn "__init__"), 216, (.ref 36)), ((sn "__static_attributes__"),
 218, (.ref 37)), ((sn "__weakref__"), 220, (.ref 40)), ((sn "__doc__"), 221, .none)]) (.node tu (.node (ka P 134) (lf (ka P 262)) (lf (ka P 390))) (.node (ka P 198) (lf
 tu) .nil)) (.node (hf (sn "check_whole") (sn "check_whole") (tl 10)) (.node (tupo [(.str (sn "self") 483), (.str (sn "text") 484), (.str (sn "found") 485)]) (lf (hf (sn
 "hex_value") (sn "hex_value") (tl 35))) (lf tu)) (.node (hf (sn "set") (sn "CatList.set") (cl 26 2)) (lf (hf (sn "step") (sn "Lines.step") (cl 37 6))) .nil))) (.node (fd
 (.type "builtin_function_or_method") [(.builtin "object.__init_subclass__"), (.ref 52)]) (.node tu (.node tu (lf (ka P 278)) (lf tu)) (.node tu (lf (tupo [(.str (sn
 "self") 715), (.str (sn "cats") 716), (.str (sn "token") 717)])) .nil)) (.node tu (.node (hf (sn "count") (sn "Names.count") (cl 23 4)) (lf (fr 309 306 (sn
 "gluepage.lines") 636)) (lf (ka P 438))) (.node (ka P 246) (lf (ka P 374)) .nil)))) (.node tu (.node tu (.node (fd (.type "builtin_function_or_method") [(.builtin
 "object.__init_subclass__"), (.ref 76)]) (.node tu (lf (ka P 270)) (lf (tupo [(.str (sn "box") 827), (.str (sn "many") 828), (.str (sn "digit") 829), (.str (sn "mixed")
 830)]))) (.node tu (lf fl) .nil)) (.node (ka P 110) (.node tu (lf (ka P 302)) (lf fl)) (.node (fd (.type "super") [(.ref 235), (.ref 235), (.ref 235)]) (lf (ka P 366))
 .nil))) (.node tu (.node tu (.node fl (lf (tupo [(.int 0 638), (.int 1 639), (.int 2 640)])) (lf (ka P 414))) (.node tu (lf tu) .nil)) (.node (ka P 126) (.node (fd (.type
 "super") [(.ref 187), (.ref 187), (.ref 187)]) (lf (ka P 318)) .nil) (.node (ka P 254) (lf (ka P 382)) .nil)))))))
noncomputable def cutT (n : Nat) : BT → Nat → Nat → BT
  | .nil, _, _ => .nil
  | .node v l r, a, b => match Nat.blt b n with
    | true => .node v (cutT n l (2 * a) (a + b)) (cutT n r (2 * a) (2 * a + b))
    | false => .nil
noncomputable def lines : List (Int × Addr) := [(1, 20), (5, 27), (9, 48), (11, 60), (13, 72), (15, 84), (19, 96), (21, 103), (25, 110), (38, 133), (42, 140), (48, 147), (79, 197), (83, 204), (91, 211), (110, 246), (114, 253), (118, 261), (123, 268), (127, 276), (143, 284), (153, 295), (159, 302), (171, 309), (287, 389), (290, 394), (296, 401), (304, 408), (310, 413), (320, 420), (337, 427), (343, 432), (350, 437)]
noncomputable def o12 (m : Nat) : Obj := fd .none ((lines.take m).flatMap fun e => [.int e.1 0, .int 0 0, .ref e.2])
noncomputable def o3 (P : Params) (k : Nat) (nm : String) (t : Tok) : Obj := nso P k ((sn "__name__", 165, .str (sn nm) t) :: (mainE.drop 1).take (k - 1))
noncomputable def sAt (z n k : Nat) (nm : String) (t : Tok) (m toks : Nat) (w : World) (os : OsState) : SharedT := ⟨cutT n (big w.params (o3 w.params k nm t) (o12 m) (([.ref 52, .ref 64, .ref 76, .ref 88] : List Value).take z)) 1 0, n, {}, Array.mk [], {}, toks, os⟩
noncomputable def s0 := sAt 0 15 9 "__main__" 164 0 187
noncomputable def s1 := sAt 4 112 19 "gluepage.tokens" 319 9 321
noncomputable def s2 := sAt 4 128 45 "gluepage.tokens" 319 9 437
noncomputable def s3 := sAt 4 286 57 "gluepage.lines" 636 21 638
noncomputable def s4 := sAt 4 290 60 "gluepage.lines" 636 21 644
noncomputable def s5 := sAt 4 439 75 "law_sq0035_01" 782 33 886
noncomputable def bb : List Stmt := behindTheImports pw
noncomputable def env0 : Env := { scope := pw.main.scope, locals := mainNs, globals := mainNs, cells := [], code := .ref 13, frame := some 14 }
noncomputable abbrev c0 : Code := .body bb env0
noncomputable abbrev q0 : Pos := ⟨0, 0, 0, 0⟩
noncomputable abbrev ann0 : Option Value := some (.ref 6)
theorem pre (w : World) (os : OsState) : topGo treeTable pw w 11 ann0 12 ⟨boot_heap w.params, Array.mk [], boot_drawn, boot_toks, os⟩ (topStub pw) = some ((s0 w os).abs, ⟨denote treeTable c0, c0, q0, [topFrame q0]⟩) := by kernel_rfl
theorem blk (w : World) (os : OsState) : segRun treeTable pw w 11 ann0 1 1 (s0 w os).abs (blockOf bb env0 c0 q0 [topFrame q0]) = some (.next, (s0 w os).abs, c0, q0) := by kernel_rfl
noncomputable def sts (a n : Nat) : List Stmt := (bb.drop a).take n
noncomputable abbrev Seg (n a m : Nat) (s s' : World → OsState → SharedT) (p p' : Pos) (w : World) : Prop := ∀ os : OsState, segRunT treeTable pw w 11 ann0 1 n (s w os) (piecesOf (sts a m) env0 c0 p [topFrame q0]) = some (.next, s' w os, c0, p')
theorem g1 (w : World) : Seg 1239 0 13 s0 s1 q0 ⟨29, 0, 29, 8⟩ w := fun os => by kernel_rfl
noncomputable abbrev Q2 := Seg 761 13 8 s1 s2 ⟨29, 0, 29, 8⟩ ⟨37, 0, 37, 18⟩
theorem g2f (w : World) : Q2 (w.withFollow "special-get-raises" false) := fun os => by kernel_rfl
theorem g2t (w : World) : Q2 (w.withFollow "special-get-raises" true) := fun os => by kernel_rfl
theorem g2 (w : World) : Q2 w := byRow2 "special-get-raises" (P := Q2) g2f g2t w
theorem g3 (w : World) : Seg 967 21 13 s2 s3 ⟨37, 0, 37, 18⟩ ⟨151, 0, 151, 8⟩ w := fun os => by kernel_rfl
noncomputable abbrev Q4 := Seg 84 34 1 s3 s4 ⟨151, 0, 151, 8⟩ ⟨152, 13, 152, 21⟩
theorem g4f (w : World) : Q4 (w.withFollow "special-get-raises" false) := fun os => by kernel_rfl
theorem g4t (w : World) : Q4 (w.withFollow "special-get-raises" true) := fun os => by kernel_rfl
theorem g4 (w : World) : Q4 w := byRow2 "special-get-raises" (P := Q4) g4f g4t w
theorem g5 (w : World) : Seg 895 35 16 s4 s5 ⟨152, 13, 152, 21⟩ ⟨350, 0, 368, 121⟩ w := fun os => by kernel_rfl
noncomputable def tZ (P : Params) : BT := cutT 439 (big P (o3 P 75 "law_sq0035_01" 782) (o12 33) (([.ref 52, .ref 64, .ref 76, .ref 88] : List Value).take 4)) 1 0
theorem gz (w : World) (os : OsState) : topRun treeTable pw w 11 ann0 2 (s5 w os).abs (restOf [] env0 c0 ⟨350, 0, 368, 121⟩ [topFrame q0]) = some (s5 w os).abs := by kernel_rfl
theorem bb_split : bb = sts 0 13 ++ (sts 13 8 ++ (sts 21 13 ++ (sts 34 1 ++ (sts 35 16 ++ [])))) := by kernel_rfl
noncomputable abbrev hook : Hook := kHook K addrs addrs_ok
noncomputable abbrev XtM : Shared → Bool := fun s => xlAt vw [] s && recOk [] s
theorem opened (w : World) : (fencedOpening treeTable pw w 8008).map (fun s => (s.heap, s.gens, s.drawn, s.toks)) = some (boot_heap w.params, Array.mk [], boot_drawn, boot_toks) :=
  boot_open (p := pw) (N := 8008) (by kernel_rfl) (by decide) (fun s => by kernel_rfl) w
theorem sized (w : World) : ((boot_heap w.params).isNs mainGlobals && (Array.mk [] : Array GenState).size == 0, (boot_heap w.params).objs.size, (boot_heap w.params).nsMap mainGlobals "__annotations__") = (true, 11, some (.ref 6)) := by kernel_rfl
theorem look1 (w : World) (os : OsState) : (staticsOk (importedModules pw.main.body) (boot_heap w.params) (s5 w os).abs.heap && namesBound pw (s5 w os).abs.heap && gensDone (s5 w os).abs && laidKept (boot_heap w.params) (s5 w os).abs.heap) = true := by kernel_rfl
theorem look2 (w : World) (os : OsState) : openSeen vw loose (importedModules pw.main.body) XtM true (s5 w os).abs = openGood vw loose := by kernel_rfl
theorem look3 (w : World) (os : OsState) : hook.obs (s5 w os).abs = hook.val w := by kernel_rfl
theorem hl : LeftO pw vw loose XtM hook.obs hook.val 8008 := LeftO.of_pieces (H₁ := fun P => absHeap (tZ P) 439 {}) (gs₁ := Array.mk []) (d₁ := {}) (k₁ := 886) (M := 12 + (1 + (1239 + (761 + (967 + (84 + (895 + (2)))))))) opened sized (fun w os => by
  have h1 := gz w os
  have h1 := piece_app (segRun_of (g5 w os)) h1
  have h1 := piece_app (segRun_of (g4 w os)) h1
  have h1 := piece_app (segRun_of (g3 w os)) h1
  have h1 := piece_app (segRun_of (g2 w os)) h1
  have h1 := piece_app (segRun_of (g1 w os)) h1
  rw [← bb_split] at h1
  exact go_top (pre w os) (piece_block (blk w os) h1)) (by decide) (fun w => funext fun os => Prod.ext (look1 w os) (Prod.ext (look2 w os) (look3 w os)))
end Mine

namespace Mine
open PySem PySem.W PySem.Calls PyProof.Rows
theorem and2 {a b : Bool} (x : a = true) (y : b = true) : (a && b) = true := by rw [x, y]; rfl
noncomputable abbrev law0 : OpenLaw := PySem.Challenge.rw_sq0035_01
noncomputable abbrev prog0 : Program := law0.row.prog
theorem lo1 : (sreFenced prog0.main && ((moduleNames prog0.main.body).isEmpty || lookedIntoSs (moduleNames prog0.main.body) prog0.main.body)) = true := by kernel_rfl
theorem lo2 : namesResolve prog0 = true := by kernel_rfl
theorem lo3 : prog0.boundNames.all (fun n => !worldNames.contains n) = true := by kernel_rfl
theorem lo4 : noRoadLSs { strict := !(importedModules prog0.main.body).all cThrough.contains, foot := none, bare := (["vars", "dir", "locals"] : List Str).filter (readsOut prog0 prog0.main.body) } prog0.main.body = true := by kernel_rfl
theorem lo5 : (namesMeet prog0 prog0.main.body fun _z n => attrL n) = true := by kernel_rfl
theorem lo : looksOpen prog0 = true := and2 (and2 (and2 (and2 lo1 lo2) lo3) lo4) lo5
theorem ps : law0.row.partSaid = true := by
  unfold OpenRow.partSaid
  rw [lo]
  kernel_rfl
theorem sd0 : (law0.row.prog.boundNames.contains law0.row.name && !startupNames.contains law0.row.name) = true := by kernel_rfl
theorem sd1 : law0.row.wellSaid = true := by
  unfold OpenRow.wellSaid
  rw [ps]
  exact sd0
theorem sd2a : decide (law0.foot ≤ (behindTheImports law0.prog).length) = true := by kernel_rfl
theorem sd2b : law0.footing.all footLine = true := by kernel_rfl
theorem sd2c : noClassBlock law0.prog law0.footing = true := by kernel_rfl
theorem sd2d : law0.most.all (fun n => decide (63 ≤ n)) = true := by kernel_rfl
theorem sd2e : law0.bound.all (fun n => decide (2 ^ 63 ≤ n)) = true := by kernel_rfl
theorem sd3 : noRoadLSs { strict := true, foot := some law0.bound', writes := law0.writes, may := law0.may } law0.footing = true := by kernel_rfl
theorem sd4a : defStands law0.about law0.above = true := by kernel_rfl
theorem sd4b : law0.namesIt = true := by kernel_rfl
theorem sd5a : (["type", "isinstance", "issubclass", "getattr", "hasattr"] : List Str).all (fun n => law0.about != [n]) = true := by kernel_rfl
theorem sd5b : law0.bound'.all (fun n => !builtinNamed n || law0.about == [n] || !law0.reads n) = true := by kernel_rfl
theorem sd6a : (!law0.writes || (law0.prog.main.body.flatMap importedNames).all fun n => !law0.reads n) = true := by kernel_rfl
theorem sd6b : (law0.prog.main.body.flatMap importedNames).all (fun n => !law0.reads n || (drawsOf n law0.prog.main.body).all fun mn => mn.2 != ("attrgetter" : Str) && mn.2 != ("methodcaller" : Str)) = true := by kernel_rfl
theorem sd7 : namesMeet law0.prog law0.footing (fun sc n => (!(["type", "isinstance", "issubclass", "getattr", "hasattr"] : List Str).contains n || sc.names.lookup n == some .globalImplicit) &&
    (law0.may != some n || sc.kind == .module || sc.names.lookup n == some .globalImplicit)) = true := by kernel_rfl
theorem sd8a : law0.own.contains law0.name = true := by kernel_rfl
theorem sd8b : (law0.own.eraseDups.length == law0.own.length) = true := by kernel_rfl
theorem sd8c : law0.own.all (fun n => !builtinNamed n) = true := by kernel_rfl
theorem sd9 : namesMeet law0.prog law0.above (fun _z n => !law0.own.contains n) = true := by kernel_rfl
theorem sd10 : (namesMeet law0.prog law0.footing fun sc n => sc.kind == .module || sc.names.lookup n != some .globalExplicit) = true := by kernel_rfl
theorem said_ok : PySem.Challenge.rw_sq0035_01.wellSaid = true := by
  show law0.wellSaid = true
  unfold OpenLaw.wellSaid
  rw [sd1, sd2a, sd2b, sd2c, sd2d, sd2e, sd3, sd4a, sd4b, sd5a, sd5b, sd6a, sd6b, sd7, sd8a, sd8b, sd8c, sd9, sd10]
  rfl
end Mine

set_option tactic.hygienic false
namespace Mine
open PySem PySem.W PySem.Calls PyProof.Rows
theorem noS {α : Type} {x : α} {P : Prop} (h : (none : Option α) = some x) : P := by cases h
theorem ffB {P : Prop} (h : false = true) : P := by cases h

inductive PV where
  | none
  | bool (b : Bool)
  | int (i : Int)
  | str (s : Str)
  | bytes (b : Array UInt8)
  | tup (l : List PV)
inductive SV where
  | p (x : PV)
  | ref (n : Nat)
  | raw (v : Value)
  | tup (l : List SV)
  | rng (a b : Int)
inductive AO where
  | list (l : List PV)
  | idict (l : List (Int × Int))
  | sdict (l : List (Str × Int))
  | inst (c : Addr) (d : Nat)
  | ns (fs : List (Str × SV))
  | hid
noncomputable abbrev AH := List AO
noncomputable abbrev Vars := List (Str × SV)

noncomputable def lk {α : Type} (x : Str) : List (Str × α) → Option α
  | [] => none
  | (y, v) :: r => if y = x then some v else lk x r
theorem lk_e1 {α : Type} {x : Str} : lk x ([] : List (Str × α)) = none := rfl
theorem lk_e2 {α : Type} {x y : Str} {v : α} {r : List (Str × α)} : lk x ((y, v) :: r) = if y = x then some v else lk x r := rfl
noncomputable def put {α : Type} (x : Str) (v : α) : List (Str × α) → List (Str × α)
  | [] => [(x, v)]
  | (y, u) :: r => if y = x then (x, v) :: r else (y, u) :: put x v r
theorem put_e1 {α : Type} {x : Str} {v : α} : put x v [] = [(x, v)] := rfl
theorem put_e2 {α : Type} {x y : Str} {v u : α} {r : List (Str × α)} : put x v ((y, u) :: r) = if y = x then (x, v) :: r else (y, u) :: put x v r := rfl
theorem lk_put {α : Type} (x z : Str) (v : α) : ∀ l : List (Str × α), lk z (put x v l) = if z = x then some v else lk z l
  | [] => by
    by_cases h : x = z
    · simp [put_e1, put_e2, lk_e1, lk_e2, h]
    · simp [put_e1, put_e2, lk_e1, lk_e2, h, Ne.symm h]
  | (y, u) :: r => by
    have ih := lk_put x z v r
    by_cases h : y = x
    · subst h
      by_cases q : y = z
      · simp [put_e1, put_e2, lk_e1, lk_e2, q]
      · simp [put_e1, put_e2, lk_e1, lk_e2, q, Ne.symm q]
    · by_cases q : y = z
      · have hz : z ≠ x := fun e => h (q.trans e)
        simp [put_e1, put_e2, lk_e1, lk_e2, h, q, hz]
      · simp [put_e1, put_e2, lk_e1, lk_e2, h, q, ih]

theorem ofString_inj {a b : String} : (Str.ofString a = Str.ofString b) = (a = b) := by
  refine propext ⟨fun h => ?_, fun h => h ▸ rfl⟩
  rw [Str.ofString_eq_toList, Str.ofString_eq_toList] at h
  injection h with h
  have h := congrArg Array.toList h
  simp only [List.toList_toArray] at h
  have inj : ∀ l l' : List Char, l.map Char.toNat = l'.map Char.toNat → l = l' := by
    intro l
    induction l with
    | nil => intro l' e; cases l' with
      | nil => rfl
      | cons => cases e
    | cons c l ih => intro l' e; cases l' with
      | nil => cases e
      | cons c' l' =>
        simp only [List.map_cons, List.cons.injEq] at e
        rw [ih l' e.2, Char.toNat_inj.mp e.1]
  exact String.toList_injective (inj _ _ h)

noncomputable def TR (o : Obj) : Prop := (o.cls = .type "tuple" ∧ ∃ vs n, o.data = .seq vs n) ∨ (o.cls = .type "range" ∧ ∃ vs, o.data = .fields vs)
noncomputable def TK (h h' : Heap) : Prop := ∀ b o, h.get? b = some o → TR o → h'.get? b = some o
theorem TK.refl (h : Heap) : TK h h := fun _z _z e _z => e
theorem TK.trans {a b c : Heap} (x : TK a b) (y : TK b c) : TK a c := fun p o e k => y p o (x p o e k) k

mutual
inductive PC (h : Heap) : Value → PV → Prop
  | none : PC h .none .none
  | bool (b) : PC h (.bool b) (.bool b)
  | int (i t) : PC h (.int i t) (.int i)
  | str (x t) : PC h (.str x t) (.str x)
  | bytes (x t) : PC h (.bytes x t) (.bytes x)
  | tup {a : Addr} {o : Obj} {vs : Array Value} {n : Nat} {l : List PV} : h.get? a = some o → o.cls = .type "tuple" → o.data = .seq vs n → PCs h vs.toList l → PC h (.ref a) (.tup l)
inductive PCs (h : Heap) : List Value → List PV → Prop
  | nil : PCs h [] []
  | cons {v : Value} {x : PV} {vs : List Value} {l : List PV} : PC h v x → PCs h vs l → PCs h (v :: vs) (x :: l)
end
theorem PC.mono {h h' : Heap} (k : TK h h') {v : Value} {x : PV} (c : PC h v x) : PC h' v x :=
  PC.rec (motive_1 := fun v x _z => PC h' v x) (motive_2 := fun vs l _z => PCs h' vs l) .none .bool .int .str .bytes (fun e c d _z ih => .tup (k _ _ e (.inl ⟨c, _, _, d⟩)) c d ih) .nil (fun _z _z a b => .cons a b) c
theorem PCs.mono {h h' : Heap} (k : TK h h') {v : List Value} {x : List PV} (c : PCs h v x) : PCs h' v x :=
  PCs.rec (motive_1 := fun v x _z => PC h' v x) (motive_2 := fun vs l _z => PCs h' vs l) .none .bool .int .str .bytes (fun e c d _z ih => .tup (k _ _ e (.inl ⟨c, _, _, d⟩)) c d ih) .nil (fun _z _z a b => .cons a b) c
mutual
inductive SC (h : Heap) (r : Nat → Addr) (N : Nat) : Value → SV → Prop
  | p {v : Value} {x : PV} : PC h v x → SC h r N v (.p x)
  | ref {n : Nat} : n < N → SC h r N (.ref (r n)) (.ref n)
  | raw (v : Value) : SC h r N v (.raw v)
  | tup {a : Addr} {o : Obj} {vs : Array Value} {n : Nat} {l : List SV} : h.get? a = some o → o.cls = .type "tuple" → o.data = .seq vs n → SCs h r N vs.toList l → SC h r N (.ref a) (.tup l)
  | rng {a : Addr} {x y : Int} {t u v : Tok} : IsRange h a x y 1 t u v → SC h r N (.ref a) (.rng x y)
inductive SCs (h : Heap) (r : Nat → Addr) (N : Nat) : List Value → List SV → Prop
  | nil : SCs h r N [] []
  | cons {v : Value} {x : SV} {vs : List Value} {l : List SV} : SC h r N v x → SCs h r N vs l → SCs h r N (v :: vs) (x :: l)
end
theorem SC.mono {h h' : Heap} {r r' : Nat → Addr} {N N' : Nat} (k : TK h h') (hr : ∀ n, n < N → r' n = r n) (hN : N ≤ N') {v : Value} {x : SV} (c : SC h r N v x) : SC h' r' N' v x :=
  SC.rec (motive_1 := fun v x _z => SC h' r' N' v x) (motive_2 := fun vs l _z => SCs h' r' N' vs l) (fun e => .p (e.mono k)) (fun l => hr _ l ▸ .ref (Nat.lt_of_lt_of_le l hN)) .raw (fun e c d _z ih => .tup (k _ _ e (.inl ⟨c, _, _, d⟩)) c d ih) (fun e => .rng (k _ _ e (.inr ⟨rfl, _, rfl⟩))) .nil (fun _z _z a b => .cons a b) c
theorem SCs.mono {h h' : Heap} {r r' : Nat → Addr} {N N' : Nat} (k : TK h h') (hr : ∀ n, n < N → r' n = r n) (hN : N ≤ N') {v : List Value} {x : List SV} (c : SCs h r N v x) : SCs h' r' N' v x :=
  SCs.rec (motive_1 := fun v x _z => SC h' r' N' v x) (motive_2 := fun vs l _z => SCs h' r' N' vs l) (fun e => .p (e.mono k)) (fun l => hr _ l ▸ .ref (Nat.lt_of_lt_of_le l hN)) .raw (fun e c d _z ih => .tup (k _ _ e (.inl ⟨c, _, _, d⟩)) c d ih) (fun e => .rng (k _ _ e (.inr ⟨rfl, _, rfl⟩))) .nil (fun _z _z a b => .cons a b) c
theorem PCs.ind {h : Heap} {M : List Value → List PV → Prop} (n : M [] []) (f : ∀ (v : Value) (x : PV) (vs : List Value) (l : List PV), PC h v x → PCs h vs l → M vs l → M (v :: vs) (x :: l)) {vs : List Value} {l : List PV} (q : PCs h vs l) : M vs l :=
  PCs.rec (motive_1 := fun _z _z _z => True) (motive_2 := fun vs l _z => M vs l) trivial (fun _z => trivial) (fun _z _z => trivial) (fun _z _z => trivial) (fun _z _z => trivial) (fun _z _z _z _z _z => trivial) n (fun a b _z ih => f _ _ _ _ a b ih) q
theorem SCs.ind {h : Heap} {r : Nat → Addr} {N : Nat} {M : List Value → List SV → Prop} (n : M [] []) (f : ∀ (v : Value) (x : SV) (vs : List Value) (l : List SV), SC h r N v x → SCs h r N vs l → M vs l → M (v :: vs) (x :: l)) {vs : List Value} {l : List SV} (q : SCs h r N vs l) : M vs l :=
  SCs.rec (motive_1 := fun _z _z _z => True) (motive_2 := fun vs l _z => M vs l) (fun _z => trivial) (fun _z => trivial) (fun _z => trivial) (fun _z _z _z _z _z => trivial) (fun _z => trivial) n (fun a b _z ih => f _ _ _ _ a b ih) q
theorem PCs.length {h : Heap} {vs : List Value} {l : List PV} (q : PCs h vs l) : vs.length = l.length := q.ind (M := fun vs l => vs.length = l.length) rfl fun _z _z _z _z _z _z ih => congrArg (· + 1) ih
theorem SCs.length {h : Heap} {r : Nat → Addr} {N : Nat} {vs : List Value} {l : List SV} (q : SCs h r N vs l) : vs.length = l.length := q.ind (M := fun vs l => vs.length = l.length) rfl fun _z _z _z _z _z _z ih => congrArg (· + 1) ih
theorem PCs.get {h : Heap} {vs : List Value} {l : List PV} (q : PCs h vs l) {i : Nat} {x : PV} (e : l[i]? = some x) : ∃ v, vs[i]? = some v ∧ PC h v x :=
  q.ind (M := fun vs l => ∀ (i : Nat) (x : PV), l[i]? = some x → ∃ v, vs[i]? = some v ∧ PC h v x) (fun i x e => by cases e) (fun _z _z _z _z a _z ih i x e => by
    cases i with
    | zero => cases e; exact ⟨_, rfl, a⟩
    | succ i => exact ih i x e) i x e
theorem PCs.get' {h : Heap} {vs : List Value} {l : List PV} (q : PCs h vs l) {i : Nat} {v : Value} (e : vs[i]? = some v) : ∃ x, l[i]? = some x ∧ PC h v x :=
  q.ind (M := fun vs l => ∀ (i : Nat) (v : Value), vs[i]? = some v → ∃ x, l[i]? = some x ∧ PC h v x) (fun i x e => by cases e) (fun _z _z _z _z a _z ih i x e => by
    cases i with
    | zero => cases e; exact ⟨_, rfl, a⟩
    | succ i => exact ih i x e) i v e
theorem PCs.append {h : Heap} {vs : List Value} {l : List PV} {ws : List Value} {k : List PV} (p : PCs h vs l) (q : PCs h ws k) : PCs h (vs ++ ws) (l ++ k) := p.ind (M := fun vs l => PCs h (vs ++ ws) (l ++ k)) q fun _z _z _z _z a _z ih => .cons a ih
theorem PCs.set {h : Heap} {vs : List Value} {l : List PV} (i : Nat) {v : Value} {x : PV} (q : PCs h vs l) (p : PC h v x) : PCs h (vs.set i v) (l.set i x) :=
  q.ind (M := fun vs l => ∀ i, PCs h (vs.set i v) (l.set i x)) (fun _z => .nil) (fun _z _z _z _z a r ih i => by
    cases i with
    | zero => exact .cons p r
    | succ i => exact .cons a (ih i)) i
theorem PCs.drop {h : Heap} (n : Nat) {vs : List Value} {l : List PV} (q : PCs h vs l) : PCs h (vs.drop n) (l.drop n) :=
  q.ind (M := fun vs l => ∀ n, PCs h (vs.drop n) (l.drop n)) (fun n => by cases n <;> exact .nil) (fun _z _z _z _z a r ih n => by
    cases n with
    | zero => exact .cons a r
    | succ n => exact ih n) n
theorem PCs.take {h : Heap} (n : Nat) {vs : List Value} {l : List PV} (q : PCs h vs l) : PCs h (vs.take n) (l.take n) :=
  q.ind (M := fun vs l => ∀ n, PCs h (vs.take n) (l.take n)) (fun n => by cases n <;> exact .nil) (fun _z _z _z _z a r ih n => by
    cases n with
    | zero => exact .nil
    | succ n => exact .cons a (ih n)) n

structure Sg where
  r : Nat → Addr
  H : AH
noncomputable def Own (g : Sg) (b : Addr) : Prop := ∃ n o, g.H[n]? = some o ∧ o ≠ .hid ∧ g.r n = b

inductive IntVals {K : Type} : List (K × Value) → List (K × Int) → Prop
  | nil : IntVals [] []
  | cons {k : K} {i : Int} {t : Tok} {kvs : List (K × Value)} {l : List (K × Int)} : IntVals kvs l → IntVals ((k, .int i t) :: kvs) ((k, i) :: l)
inductive NsC (h : Heap) (r : Nat → Addr) (N : Nat) : List DictEntry → List (Str × SV) → Prop
  | nil : NsC h r N [] []
  | cons {x : Str} {sv : SV} {hs : Int} {t : Tok} {v : Value} {es : List DictEntry} {fs : List (Str × SV)} : SC h r N v sv → NsC h r N es fs → NsC h r N (⟨hs, .str x t, v⟩ :: es) ((x, sv) :: fs)
theorem NsC.mono {h h' : Heap} {r r' : Nat → Addr} {N N' : Nat} (k : TK h h') (hr : ∀ n, n < N → r' n = r n) (hN : N ≤ N') {es : List DictEntry} {fs : List (Str × SV)} (q : NsC h r N es fs) : NsC h' r' N' es fs := by
  induction q with
  | nil => exact .nil
  | cons a _ ih => exact .cons (a.mono k hr hN) ih

section
variable (prog : Program) (w : World)
noncomputable def OC (h : Heap) (g : Sg) (a : Addr) : AO → Prop
  | .list l => ∃ vs n, h.get? a = some (listOf vs n) ∧ PCs h vs.toList l
  | .idict l => ∃ kvs, h.DictOf (intKind prog w) a kvs ∧ IntVals kvs l
  | .sdict l => ∃ kvs, h.DictOf (strKind prog w) a kvs ∧ IntVals kvs l
  | .inst c d => d < g.H.length ∧ h.get? a = some (instObj c (g.r d))
  | .ns fs => ∃ es n, h.get? a = some (dictOf es n) ∧ NsC h g.r g.H.length es fs
  | .hid => ∃ o, h.get? a = some o
end
end Mine

namespace Mine
open PySem PySem.W PySem.Calls PyProof.Rows

theorem Runs.size_le {M : Model} {Γ : Ctx} {p : Pos} {t : Sem Fin} {fs : List Frame} {s s' : Shared} {e : End} (h : Runs M Γ p t fs s e s') : s.heap.objs.size ≤ s'.heap.objs.size := by
  induction h <;> (try simp only [Shared.setGen, Heap.size_push, Heap.size_after_update] at *) <;> omega
theorem Returns.size_le {M : Model} {Γ : Ctx} {p : Pos} {s s' : Shared} {r : Result} (h : Returns M Γ p s r s') : s.heap.objs.size ≤ s'.heap.objs.size := Runs.size_le h
theorem Wakes.size_le {M : Model} {Γ : Ctx} {p : Pos} {g : Nat} {r : Resume} {s s' : Shared} {res : GenResult} (h : Wakes M Γ p g r s res s') : s.heap.objs.size ≤ s'.heap.objs.size := by
  unfold Wakes at h
  split at h
  · exact h.elim
  · split at h
    · obtain ⟨e₁, s₁, hr, _, _, rfl⟩ := h; exact (Runs.size_le hr : (s.setGen g .running).heap.objs.size ≤ s₁.heap.objs.size)
    · rw [h.2]; exact Nat.le_refl _
    · rw [h.2]; exact Nat.le_refl _
  · obtain ⟨e₁, s₁, hr, _, _, rfl⟩ := h; exact (Runs.size_le hr : (s.setGen g .running).heap.objs.size ≤ s₁.heap.objs.size)
  · rw [h.2]; exact Nat.le_refl _
  · rw [h.2]; exact Nat.le_refl _
theorem wp_size {α : Type} (M : Model) (Γ : Ctx) (n : Nat) (t : Sem α) : ∀ (Q : α → Pos → Shared → Prop) (E : Value → Pos → Shared → Prop) (p : Pos) (s : Shared), n ≤ s.heap.objs.size → Sem.wp M Γ t Q E p s →
    Sem.wp M Γ t (fun a p' s' => n ≤ s'.heap.objs.size ∧ Q a p' s') (fun e p' s' => n ≤ s'.heap.objs.size ∧ E e p' s') p s := by
  induction t with
  | pure a => intro Q E p s hn h; exact ⟨hn, h⟩
  | raise e => intro Q E p s hn h; exact ⟨hn, h⟩
  | unsupported _ => intro Q E p s _ h; exact h
  | finish _ => intro Q E p s _ h; exact h
  | rule _ k ih => intro Q E p s hn h; exact ih () Q E p s hn h
  | «at» p' k ih => intro Q E p s hn h; exact ih () Q E p' s hn h
  | load a _ k ih => intro Q E p s hn h; obtain ⟨o, ho, h⟩ := h; exact ⟨o, ho, ih o Q E p s hn h⟩
  | update a _ f k ih => intro Q E p s hn h; exact ⟨h.1, ih () Q E p _ (by show n ≤ (s.heap.update a f).objs.size; rw [Heap.size_after_update]; exact hn) h.2⟩
  | loadIfAlive a k ih => intro Q E p s hn h; exact ih _ Q E p s hn h
  | point _ k ih => intro Q E p s hn h; exact ih () Q E p s hn h
  | register _ _ => intro Q E p s _ h; exact h
  | alloc o k ih => intro Q E p s hn h; exact ih _ Q E p _ (by show n ≤ (s.heap.push o).objs.size; rw [Heap.size_push]; omega) h
  | fresh k ih => intro Q E p s hn h; exact ih _ Q E p { s with toks := s.toks + 1 } hn h
  | ask k ih => intro Q E p s hn h; exact ih _ Q E p s hn h
  | choose src m k ih => intro Q E p s hn h; exact ⟨h.1, ih _ Q E p { s with drawn := s.drawn.bump src } hn h.2⟩
  | os q _ k ih => intro Q E p s hn h; exact ih _ Q E p _ (by exact hn) h
  | call c hd _ _ k ih => intro Q E p s hn h; obtain ⟨r, s', hr, h⟩ := h; exact ⟨r, s', hr, ih r Q E p s' (Nat.le_trans hn (Mine.Returns.size_le hr)) h⟩
  | handled own k ih => intro Q E p s hn h; exact ih _ Q E p s hn h
  | genState g k ih => intro Q E p s hn h; obtain ⟨st, hs, h⟩ := h; exact ⟨st, hs, ih _ Q E p s hn h⟩
  | newGen c k ih => intro Q E p s hn h; exact ih _ Q E p _ (by exact hn) h
  | resume g r _ k ih => intro Q E p s hn h; obtain ⟨res, s', hw, h⟩ := h; exact ⟨res, s', hw, ih res Q E p s' (Nat.le_trans hn (Mine.Wakes.size_le hw)) h⟩
  | yield _ _ _ _ => intro Q E p s _ h; exact h
  | stack k ih => intro Q E p s hn h; exact ih _ Q E p s hn h
  | fork _ _ => intro Q E p s _ h; exact h
  | thread k ih => intro Q E p s hn h; exact ih _ Q E p s hn h
  | await _ _ _ _ _ => intro Q E p s _ h; exact h
theorem wpAny_with_size {α : Type} {M : Model} {A : Around} {s : Shared} {t : Sem α} {Q : α → Shared → Prop} {E : Value → Shared → Prop}
    (h : wpAny M A t (fun a s' => s.heap.objs.size ≤ s'.heap.objs.size → Q a s') E s) : wpAny M A t Q E s :=
  wpAny_mono (fun Γ p hΓ => wp_size M Γ s.heap.objs.size t _ _ p s (Nat.le_refl _) (h Γ p hΓ) : wpAny M A t (fun a s' => s.heap.objs.size ≤ s'.heap.objs.size ∧ (s.heap.objs.size ≤ s'.heap.objs.size → Q a s')) (fun e s' => s.heap.objs.size ≤ s'.heap.objs.size ∧ E e s') s)
    (fun _z _z x => x.2 x.1) (fun _z _z x => x.2)
theorem codeAny_with_size {M : Model} {A : Around} {s : Shared} {c : Code} {R : Result → Shared → Prop} (h : codeAny M A c (fun r s' => s.heap.objs.size ≤ s'.heap.objs.size → R r s') s) : codeAny M A c R s :=
  fun Γ p hc hΓ => by obtain ⟨r, s', hr, hR⟩ := h Γ p hc hΓ; exact ⟨r, s', hr, hR (Mine.Returns.size_le hr)⟩
end Mine

namespace Mine
open PySem PySem.W PySem.Calls PyProof.Rows

structure Ev (s s' : Shared) (X : Addr → Prop) : Prop where
  same : ∃ h tk, s' = { s with heap := h, toks := tk }
  size : s.heap.objs.size ≤ s'.heap.objs.size
  frame : ∀ b o, s.heap.get? b = some o → ¬ X b → s'.heap.get? b = some o
  tk : TK s.heap s'.heap
section
variable (prog : Program) (w : World) (h₀ : Heap)
structure St (s : Shared) (g : Sg) : Prop where
  keep : ∀ b o, h₀.get? b = some o → s.heap.get? b = some o
  obj : ∀ n o, g.H[n]? = some o → OC prog w s.heap g (g.r n) o
  inj : ∀ n m, n < g.H.length → m < g.H.length → g.r n = g.r m → n = m
  new : ∀ n, n < g.H.length → h₀.get? (g.r n) = none
structure Po (s : Shared) (g : Sg) (s' : Shared) (g' : Sg) (X : Addr → Prop) : Prop where
  ev : Ev s s' (fun b => X b ∨ Own g b)
  st : St prog w h₀ s' g'
  len : g.H.length ≤ g'.H.length
  agree : ∀ n, n < g.H.length → g'.r n = g.r n
  hid : ∀ n, n < g.H.length → (g.H[n]? = some .hid ↔ g'.H[n]? = some .hid)
  fresh : ∀ n, g.H.length ≤ n → n < g'.H.length → s.heap.objs.size ≤ g'.r n
structure Fe (env : Env) (vars : Vars) (s : Shared) (g : Sg) : Prop where
  kind : env.scope.kind = .function
  glob : env.globals = mainGlobals
  bi : env.builtins = builtinsNs
  ns : ∃ m, s.heap.Ns env.locals m ∧ ∀ x sv, lk x vars = some sv → env.kindOf x = some .local → ∃ v, m x = some v ∧ SC s.heap g.r g.H.length v sv
  cv : ∀ x sv, lk x vars = some sv → env.kindOf x ≠ some .local → (env.kindOf x = some .cell ∨ env.kindOf x = some .free) ∧ ∃ c v, env.cells.lookup x = some c ∧ s.heap.IsCell c (some v) ∧ SC s.heap g.r g.H.length v sv
  cells : ∀ x c, env.cells.lookup x = some c → (∃ v, s.heap.IsCell c v) ∧ c ≠ env.locals ∧ h₀.get? c = none ∧ ∀ n, n < g.H.length → g.r n ≠ c
  cinj : ∀ x y c, env.cells.lookup x = some c → env.cells.lookup y = some c → x = y
  lnew : h₀.get? env.locals = none ∧ ∀ n, n < g.H.length → g.r n ≠ env.locals
end
noncomputable def NoX (_ : Addr) : Prop := False
noncomputable def XF (env : Env) (b : Addr) : Prop := b = env.locals ∨ ∃ x, env.cells.lookup x = some b

section
variable {prog : Program} {w : World} {h₀ : Heap}
theorem OC.live {h : Heap} {g : Sg} {a : Addr} {o : AO} (c : OC prog w h g a o) : ∃ ob, h.get? a = some ob := by
  cases o with
  | list _ => obtain ⟨_, _, e, _⟩ := c; exact ⟨_, e⟩
  | idict _ => obtain ⟨_, ⟨_, _, _, e, _⟩, _⟩ := c; exact ⟨_, e⟩
  | sdict _ => obtain ⟨_, ⟨_, _, _, e, _⟩, _⟩ := c; exact ⟨_, e⟩
  | inst _ _ => exact ⟨_, c.2⟩
  | ns _ => obtain ⟨_, _, e, _⟩ := c; exact ⟨_, e⟩
  | hid => exact c
theorem OC.notTup {h : Heap} {g : Sg} {a : Addr} {ob : Obj} (hob : h.get? a = some ob) {o : AO} (c : OC prog w h g a o) (n : o ≠ .hid) : ¬ TR ob := by
  cases o with
  | list _ => obtain ⟨_, _, e, _⟩ := c; rw [hob] at e; cases e; simp [TR]
  | idict _ => obtain ⟨_, ⟨_, _, _, e, x, _⟩, _⟩ := c; rw [hob] at e; cases e; simp [TR, x.1]
  | sdict _ => obtain ⟨_, ⟨_, _, _, e, x, _⟩, _⟩ := c; rw [hob] at e; cases e; simp [TR, x.1]
  | inst _ _ => have e := c.2; rw [hob] at e; cases e; simp [TR]
  | ns _ => obtain ⟨_, _, e, _⟩ := c; rw [hob] at e; cases e; simp [TR]
  | hid => exact absurd rfl n
theorem OC.move {h h' : Heap} {g g' : Sg} {a : Addr} (k : ∀ ob, h.get? a = some ob → h'.get? a = some ob) (tk : TK h h') (hr : ∀ n, n < g.H.length → g'.r n = g.r n) (hl : g.H.length ≤ g'.H.length) {o : AO} (c : OC prog w h g a o) : OC prog w h' g' a o := by
  cases o with
  | list _ => obtain ⟨vs, n, e, q⟩ := c; exact ⟨vs, n, k _ e, q.mono tk⟩
  | idict _ => obtain ⟨kvs, ⟨o, es, ep, e, q⟩, i⟩ := c; exact ⟨kvs, ⟨o, es, ep, k _ e, q⟩, i⟩
  | sdict _ => obtain ⟨kvs, ⟨o, es, ep, e, q⟩, i⟩ := c; exact ⟨kvs, ⟨o, es, ep, k _ e, q⟩, i⟩
  | inst _ d => obtain ⟨hd, e⟩ := c; exact ⟨Nat.lt_of_lt_of_le hd hl, by rw [hr d hd]; exact k _ e⟩
  | ns _ => obtain ⟨es, n, e, q⟩ := c; exact ⟨es, n, k _ e, q.mono tk hr hl⟩
  | hid => obtain ⟨o, e⟩ := c; exact ⟨o, k _ e⟩
theorem St.lt {s : Shared} {g : Sg} (S : St prog w h₀ s g) {n : Nat} (h : n < g.H.length) : g.r n < s.heap.objs.size := by
  obtain ⟨ob, e⟩ := (S.obj n _ (List.getElem?_eq_getElem h)).live
  exact Heap.lt_size e
theorem St.own_lt {s : Shared} {g : Sg} (S : St prog w h₀ s g) {b : Addr} (h : Own g b) : b < s.heap.objs.size := by
  obtain ⟨n, o, e, _, rfl⟩ := h
  exact S.lt (List.getElem?_eq_some_iff.mp e).1
theorem St.own_new {s : Shared} {g : Sg} (S : St prog w h₀ s g) {b : Addr} (h : Own g b) : h₀.get? b = none := by
  obtain ⟨n, o, e, _, rfl⟩ := h
  exact S.new n (List.getElem?_eq_some_iff.mp e).1
theorem St.not_own {s : Shared} {g : Sg} (S : St prog w h₀ s g) {b : Addr} {o : Obj} (e : h₀.get? b = some o) : ¬ Own g b := fun h => by have := S.own_new h; rw [e] at this; cases this
theorem St.fresh {s : Shared} {g : Sg} (S : St prog w h₀ s g) {a : Addr} (h : s.heap.objs.size ≤ a) : h₀.get? a = none := by
  cases e : h₀.get? a with
  | none => rfl
  | some o => exact absurd (Heap.lt_size (S.keep a o e)) (Nat.not_lt_of_le h)
theorem Ev.refl (s : Shared) (X : Addr → Prop) : Ev s s X := ⟨⟨_, _, rfl⟩, Nat.le_refl _, fun _z _z e _z => e, TK.refl _⟩
theorem Ev.trans {s s' s'' : Shared} {X Y : Addr → Prop} (a : Ev s s' X) (b : Ev s' s'' Y) (h : ∀ c, c < s.heap.objs.size → Y c → X c) : Ev s s'' X := by
  obtain ⟨h1, t1, rfl⟩ := a.same
  obtain ⟨h2, t2, rfl⟩ := b.same
  exact ⟨⟨_, _, rfl⟩, Nat.le_trans a.size b.size, fun c o e n => b.frame c o (a.frame c o e n) fun y => n (h c (Heap.lt_size e) y), a.tk.trans b.tk⟩
theorem Po.refl {s : Shared} {g : Sg} (S : St prog w h₀ s g) (X : Addr → Prop) : Po prog w h₀ s g s g X := ⟨Ev.refl _ _, S, Nat.le_refl _, fun _z _z => rfl, fun _z _z => Iff.rfl, fun n a b => absurd (Nat.lt_of_lt_of_le b a) (Nat.lt_irrefl _)⟩
theorem Po.own_back {s s' : Shared} {g g' : Sg} {X : Addr → Prop} (P : Po prog w h₀ s g s' g' X) {b : Addr} (hb : b < s.heap.objs.size) (h : Own g' b) : Own g b := by
  obtain ⟨n, o, e, ne, rfl⟩ := h
  by_cases hn : n < g.H.length
  · refine ⟨n, g.H[n], List.getElem?_eq_getElem hn, fun q => ?_, (P.agree n hn).symm⟩
    have := (P.hid n hn).mp (by rw [List.getElem?_eq_getElem hn, q])
    rw [e] at this
    exact ne (Option.some.inj this)
  · exact absurd hb (Nat.not_lt_of_le (P.fresh n (Nat.le_of_not_lt hn) (List.getElem?_eq_some_iff.mp e).1))
theorem Po.trans {s s' s'' : Shared} {g g' g'' : Sg} {X Y : Addr → Prop} (a : Po prog w h₀ s g s' g' X) (b : Po prog w h₀ s' g' s'' g'' Y) (hY : ∀ c, c < s.heap.objs.size → Y c → X c) : Po prog w h₀ s g s'' g'' X := by
  refine ⟨a.ev.trans b.ev ?_, b.st, Nat.le_trans a.len b.len, fun n hn => (b.agree n (Nat.lt_of_lt_of_le hn a.len)).trans (a.agree n hn),
    fun n hn => (a.hid n hn).trans (b.hid n (Nat.lt_of_lt_of_le hn a.len)), fun n h1 h2 => ?_⟩
  · rintro c hc (y | y)
    · exact .inl (hY c hc y)
    · exact .inr (a.own_back hc y)
  · by_cases q : n < g'.H.length
    · rw [b.agree n q]; exact a.fresh n h1 q
    · exact Nat.le_trans a.ev.size (b.fresh n (Nat.le_of_not_lt q) h2)
theorem Po.trans' {s s' s'' : Shared} {g g' g'' : Sg} {X : Addr → Prop} (a : Po prog w h₀ s g s' g' X) (b : Po prog w h₀ s' g' s'' g'' X) : Po prog w h₀ s g s'' g'' X := a.trans b fun _z _z h => h
theorem Po.weak {s s' : Shared} {g g' : Sg} {X Y : Addr → Prop} (a : Po prog w h₀ s g s' g' X) (h : ∀ b, X b → Y b) : Po prog w h₀ s g s' g' Y :=
  ⟨⟨a.ev.same, a.ev.size, fun b o e n => a.ev.frame b o e fun z => n (z.imp (h b) id), a.ev.tk⟩, a.st, a.len, a.agree, a.hid, a.fresh⟩
theorem Po.sc {s s' : Shared} {g g' : Sg} {X : Addr → Prop} (P : Po prog w h₀ s g s' g' X) {v : Value} {x : SV} (h : SC s.heap g.r g.H.length v x) : SC s'.heap g'.r g'.H.length v x := h.mono P.ev.tk P.agree P.len
theorem Po.scs {s s' : Shared} {g g' : Sg} {X : Addr → Prop} (P : Po prog w h₀ s g s' g' X) {v : List Value} {x : List SV} (h : SCs s.heap g.r g.H.length v x) : SCs s'.heap g'.r g'.H.length v x := h.mono P.ev.tk P.agree P.len

theorem Po.ext {s : Shared} {g : Sg} (S : St prog w h₀ s g) {h' : Heap} {tk' : Nat} (k : ∀ b o, s.heap.get? b = some o → h'.get? b = some o) (hs : s.heap.objs.size ≤ h'.objs.size) :
    Po prog w h₀ s g { s with heap := h', toks := tk' } g NoX :=
  ⟨⟨⟨_, _, rfl⟩, hs, fun b o e _z => k b o e, fun b o e _z => k b o e⟩,
   ⟨fun b o e => k b o (S.keep b o e), fun n o e => (S.obj n o e).move (fun _z => k _ _) (fun b o e _z => k b o e) (fun _z _z => rfl) (Nat.le_refl _), S.inj, S.new⟩,
   Nat.le_refl _, fun _z _z => rfl, fun _z _z => Iff.rfl, fun n a b => absurd (Nat.lt_of_lt_of_le b a) (Nat.lt_irrefl _)⟩
theorem Po.tok {s : Shared} {g : Sg} (S : St prog w h₀ s g) (tk' : Nat) : Po prog w h₀ s g { s with toks := tk' } g NoX := Po.ext S (fun _z _z e => e) (Nat.le_refl _)
theorem Po.push {s : Shared} {g : Sg} (S : St prog w h₀ s g) (o : Obj) (tk' : Nat) : Po prog w h₀ s g { s with heap := s.heap.push o, toks := tk' } g NoX :=
  Po.ext S (fun _z _z e => Heap.get?_push_of_some o e) (by rw [Heap.size_push]; exact Nat.le_succ _)

noncomputable def Sg.add (g : Sg) (a : Addr) (o : AO) : Sg := ⟨fun n => if n = g.H.length then a else g.r n, g.H ++ [o]⟩
theorem Po.add {s : Shared} {g : Sg} (S : St prog w h₀ s g) {h' : Heap} {tk' : Nat} {a : Addr} {o : AO} (k : ∀ b o, s.heap.get? b = some o → h'.get? b = some o) (hs : s.heap.objs.size ≤ h'.objs.size)
    (ha : s.heap.objs.size ≤ a) (ho : OC prog w h' (g.add a o) a o) (hh : o ≠ .hid) :
    Po prog w h₀ s g { s with heap := h', toks := tk' } (g.add a o) NoX := by
  have hl : (g.add a o).H.length = g.H.length + 1 := by simp [Sg.add]
  have hr : ∀ n, n < g.H.length → (g.add a o).r n = g.r n := fun n hn => if_neg (Nat.ne_of_lt hn)
  have ha' : (g.add a o).r g.H.length = a := if_pos rfl
  have hH : ∀ n, n < g.H.length → (g.add a o).H[n]? = g.H[n]? := fun n hn => List.getElem?_append_left hn
  have hHl : (g.add a o).H[g.H.length]? = some o := by simp [Sg.add]
  refine ⟨⟨⟨_, _, rfl⟩, hs, fun b o e _z => k b o e, fun b o e _z => k b o e⟩, ⟨fun b o e => k b o (S.keep b o e), fun n x e => ?_, fun n m hn hm e => ?_, fun n hn => ?_⟩, by rw [hl]; exact Nat.le_succ _, hr, fun n hn => by rw [hH n hn], fun n h1 h2 => ?_⟩
  · by_cases hn : n < g.H.length
    · rw [hH n hn] at e
      rw [hr n hn]
      exact (S.obj n x e).move (fun _z => k _ _) (fun b o e _z => k b o e) hr (by rw [hl]; exact Nat.le_succ _)
    · have : n = g.H.length := by
        have := (List.getElem?_eq_some_iff.mp e).1
        rw [hl] at this
        omega
      subst this
      rw [hHl] at e
      cases e
      rw [ha']
      exact ho
  · rw [hl] at hn hm
    by_cases h1 : n < g.H.length
    · by_cases h2 : m < g.H.length
      · rw [hr n h1, hr m h2] at e; exact S.inj n m h1 h2 e
      · have : m = g.H.length := by omega
        subst this
        rw [hr n h1, ha'] at e
        have := S.lt h1
        rw [e] at this
        exact absurd this (Nat.not_lt_of_le ha)
    · have : n = g.H.length := by omega
      subst this
      by_cases h2 : m < g.H.length
      · rw [hr m h2, ha'] at e
        have := S.lt h2
        rw [← e] at this
        exact absurd this (Nat.not_lt_of_le ha)
      · omega
  · rw [hl] at hn
    by_cases h1 : n < g.H.length
    · rw [hr n h1]; exact S.new n h1
    · have : n = g.H.length := by omega
      subst this
      rw [ha']
      exact S.fresh ha
  · rw [hl] at h2
    have : n = g.H.length := by omega
    subst this
    rw [ha']; exact ha

theorem Po.upd {s : Shared} {g : Sg} (S : St prog w h₀ s g) {h' : Heap} {tk' : Nat} {n : Nat} {o o' : AO} (e : g.H[n]? = some o) (hh : o ≠ .hid) (hh' : o' ≠ .hid) (sb : Heap.SameBut (g.r n) s.heap h')
    (ho : OC prog w h' ⟨g.r, g.H.set n o'⟩ (g.r n) o') : Po prog w h₀ s g { s with heap := h', toks := tk' } ⟨g.r, g.H.set n o'⟩ NoX := by
  have hn := (List.getElem?_eq_some_iff.mp e).1
  have own : Own g (g.r n) := ⟨n, o, e, hh, rfl⟩
  have tk : TK s.heap h' := fun b ob eb c => by
    by_cases q : b = g.r n
    · subst q; exact absurd c ((S.obj n o e).notTup eb hh)
    · exact (sb.2 b q).trans eb
  have hl : (g.H.set n o').length = g.H.length := List.length_set
  refine ⟨⟨⟨_, _, rfl⟩, Nat.le_of_eq sb.1.symm, fun b ob eb nx => ?_, tk⟩, ⟨fun b ob eb => ?_, fun m x em => ?_, fun a b ha hb => S.inj a b (hl ▸ ha) (hl ▸ hb), fun a ha => S.new a (hl ▸ ha)⟩, Nat.le_of_eq hl.symm, fun _z _z => rfl, fun m hm => ?_, fun m a b => absurd (Nat.lt_of_lt_of_le b (Nat.le_trans (Nat.le_of_eq hl) a)) (Nat.lt_irrefl _)⟩
  · exact (sb.2 b fun q => nx (.inr (q ▸ own))).trans eb
  · exact (sb.2 b fun q => S.not_own eb (q ▸ own)).trans (S.keep b ob eb)
  · by_cases q : m = n
    · subst q
      rw [show (⟨g.r, g.H.set m o'⟩ : Sg).H[m]? = some o' from List.getElem?_set_self hn] at em
      cases em
      exact ho
    · have em' : g.H[m]? = some x := by
        rw [← em]; exact (List.getElem?_set_ne (Ne.symm q)).symm
      refine OC.move (g := g) (g' := ⟨g.r, g.H.set n o'⟩) (fun ob eb => (sb.2 _ fun z => q (S.inj m n (List.getElem?_eq_some_iff.mp em').1 hn z)).trans eb) tk (fun _z _z => rfl) (Nat.le_of_eq hl.symm) (S.obj m x em')
  · by_cases q : m = n
    · subst q
      rw [e, show (⟨g.r, g.H.set m o'⟩ : Sg).H[m]? = some o' from List.getElem?_set_self hn]
      simp [hh, hh']
    · rw [show (⟨g.r, g.H.set n o'⟩ : Sg).H[m]? = g.H[m]? from List.getElem?_set_ne (Ne.symm q)]
theorem Fe.keep {env : Env} {vars : Vars} {s s' : Shared} {g g' : Sg} (F : Fe h₀ env vars s g) (P : Po prog w h₀ s g s' g' NoX) : Fe h₀ env vars s' g' := by
  have nL : ¬ Own g env.locals := fun ⟨n, o, e, _, q⟩ => F.lnew.2 n (List.getElem?_eq_some_iff.mp e).1 q
  have nC : ∀ x c, env.cells.lookup x = some c → ¬ Own g c := fun x c hc ⟨n, o, e, _, q⟩ => (F.cells x c hc).2.2.2 n (List.getElem?_eq_some_iff.mp e).1 q
  have kL : ∀ o, s.heap.get? env.locals = some o → s'.heap.get? env.locals = some o := fun o e => P.ev.frame _ o e (by rintro (h | h); exact h; exact nL h)
  have kC : ∀ x c, env.cells.lookup x = some c → ∀ o, s.heap.get? c = some o → s'.heap.get? c = some o := fun x c hc o e => P.ev.frame _ o e (by rintro (h | h); exact h; exact nC x c hc h)
  refine ⟨F.kind, F.glob, F.bi, ?_, fun x sv hx hk => ?_, fun x c hc => ?_, F.cinj, F.lnew.1, fun n hn => ?_⟩
  · obtain ⟨m, ⟨o, es, ep, e, r⟩, hm⟩ := F.ns
    refine ⟨m, ⟨o, es, ep, kL o e, r⟩, fun x sv hx hk => ?_⟩
    obtain ⟨v, hv, sc⟩ := hm x sv hx hk
    exact ⟨v, hv, P.sc sc⟩
  · obtain ⟨h1, c, v, h2, ⟨o, e, r⟩, sc⟩ := F.cv x sv hx hk
    exact ⟨h1, c, v, h2, ⟨o, kC x c h2 o e, r⟩, P.sc sc⟩
  · obtain ⟨⟨v, ⟨o, e, r⟩⟩, h1, h2, h3⟩ := F.cells x c hc
    refine ⟨⟨v, ⟨o, kC x c hc o e, r⟩⟩, h1, h2, fun n hn => ?_⟩
    by_cases q : n < g.H.length
    · rw [P.agree n q]; exact h3 n q
    · intro z
      have := P.fresh n (Nat.le_of_not_lt q) hn
      rw [z] at this
      exact absurd (Heap.lt_size e) (Nat.not_lt_of_le this)
  · by_cases q : n < g.H.length
    · rw [P.agree n q]; exact F.lnew.2 n q
    · intro z
      obtain ⟨m, ⟨o, es, ep, e, r⟩, hm⟩ := F.ns
      have := P.fresh n (Nat.le_of_not_lt q) hn
      rw [z] at this
      exact absurd (Heap.lt_size e) (Nat.not_lt_of_le this)
end
end Mine

namespace Mine
open PySem PySem.W PySem.Calls PyProof.Rows

mutual
noncomputable def SV.map (f : Nat → Nat) : SV → SV
  | .ref n => .ref (f n)
  | .tup l => .tup (SV.maps f l)
  | .p x => .p x
  | .raw v => .raw v
  | .rng a b => .rng a b
noncomputable def SV.maps (f : Nat → Nat) : List SV → List SV
  | [] => []
  | x :: r => SV.map f x :: SV.maps f r
end
mutual
noncomputable def SV.refs : SV → List Nat
  | .ref n => [n]
  | .tup l => SV.refss l
  | .p _ => []
  | .raw _ => []
  | .rng _ _ => []
noncomputable def SV.refss : List SV → List Nat
  | [] => []
  | x :: r => SV.refs x ++ SV.refss r
end
noncomputable def mapF (f : Nat → Nat) : List (Str × SV) → List (Str × SV)
  | [] => []
  | (x, v) :: r => (x, v.map f) :: mapF f r
theorem mapF_e {f : Nat → Nat} {x : Str} {v : SV} {r : List (Str × SV)} : mapF f ((x, v) :: r) = (x, v.map f) :: mapF f r := rfl
noncomputable def refsF : List (Str × SV) → List Nat
  | [] => []
  | (_, v) :: r => v.refs ++ refsF r
theorem refsF_e {x : Str} {v : SV} {r : List (Str × SV)} : refsF ((x, v) :: r) = v.refs ++ refsF r := rfl
noncomputable def AO.map (f : Nat → Nat) : AO → AO
  | .inst c d => .inst c (f d)
  | .ns fs => .ns (mapF f fs)
  | .list l => .list l
  | .idict l => .idict l
  | .sdict l => .sdict l
  | .hid => .hid
noncomputable def AO.refs : AO → List Nat
  | .inst _ d => [d]
  | .ns fs => refsF fs
  | .list _ => []
  | .idict _ => []
  | .sdict _ => []
  | .hid => []
theorem SC.map {h : Heap} {r r' : Nat → Addr} {N N' : Nat} {f : Nat → Nat} {v : Value} {x : SV} (q : ∀ n ∈ x.refs, f n < N' ∧ r' (f n) = r n) (c : SC h r N v x) : SC h r' N' v (x.map f) :=
  SC.rec (motive_1 := fun v x _z => (∀ n ∈ x.refs, f n < N' ∧ r' (f n) = r n) → SC h r' N' v (x.map f)) (motive_2 := fun v x _z => (∀ n ∈ SV.refss x, f n < N' ∧ r' (f n) = r n) → SCs h r' N' v (SV.maps f x))
    (fun e _z => .p e) (fun {n} _ q => by
      have := q n (by simp [SV.refs])
      rw [← this.2]
      exact .ref this.1) (fun v _z => .raw v) (fun a b c _z ih q => .tup a b c (ih fun n hn => q n (by simpa [SV.refs] using hn))) (fun e _z => .rng e) (fun _z => .nil)
    (fun _z _z i1 i2 q => .cons (i1 fun n hn => q n (by simp [SV.refss, hn])) (i2 fun n hn => q n (by simp [SV.refss, hn]))) c q
theorem SCs.map {h : Heap} {r r' : Nat → Addr} {N N' : Nat} {f : Nat → Nat} {v : List Value} {x : List SV} (q : ∀ n ∈ SV.refss x, f n < N' ∧ r' (f n) = r n) (c : SCs h r N v x) : SCs h r' N' v (SV.maps f x) :=
  c.ind (M := fun v x => (∀ n ∈ SV.refss x, f n < N' ∧ r' (f n) = r n) → SCs h r' N' v (SV.maps f x)) (fun _z => .nil) (fun _z _z _z _z a _z ih q => .cons (a.map fun n hn => q n (by simp [SV.refss, hn])) (ih fun n hn => q n (by simp [SV.refss, hn]))) q
theorem SC.lt {h : Heap} {r : Nat → Addr} {N : Nat} {v : Value} {x : SV} (c : SC h r N v x) : ∀ n ∈ x.refs, n < N :=
  SC.rec (motive_1 := fun _z x _z => ∀ n ∈ x.refs, n < N) (motive_2 := fun _z x _z => ∀ n ∈ SV.refss x, n < N)
    (fun _z n hn => by simp [SV.refs] at hn) (fun h n hn => by simp [SV.refs] at hn; exact hn ▸ h) (fun _z n hn => by simp [SV.refs] at hn) (fun _z _z _z _z ih n hn => ih n (by simpa [SV.refs] using hn)) (fun _z n hn => by simp [SV.refs] at hn)
    (fun n hn => by simp [SV.refss] at hn) (fun _z _z i1 i2 n hn => by
      simp only [SV.refss, List.mem_append] at hn
      exact hn.elim (i1 n) (i2 n)) c
theorem SCs.lt {h : Heap} {r : Nat → Addr} {N : Nat} {v : List Value} {x : List SV} (c : SCs h r N v x) : ∀ n ∈ SV.refss x, n < N :=
  c.ind (M := fun _z x => ∀ n ∈ SV.refss x, n < N) (fun n hn => by simp [SV.refss] at hn) fun _z _z _z _z a _z ih n hn => by
    simp only [SV.refss, List.mem_append] at hn
    exact hn.elim (a.lt n) (ih n)
theorem NsC.map {h : Heap} {r r' : Nat → Addr} {N N' : Nat} {f : Nat → Nat} {es : List DictEntry} {fs : List (Str × SV)} (q : NsC h r N es fs) : (∀ n ∈ refsF fs, f n < N' ∧ r' (f n) = r n) → NsC h r' N' es (mapF f fs) := by
  induction q with
  | nil => exact fun _z => .nil
  | cons a _ ih => exact fun c => .cons (a.map fun n hn => c n (by simp [refsF, hn])) (ih fun n hn => c n (by simp [refsF, hn]))
theorem NsC.lt {h : Heap} {r : Nat → Addr} {N : Nat} {es : List DictEntry} {fs : List (Str × SV)} (q : NsC h r N es fs) : ∀ n ∈ refsF fs, n < N := by
  induction q with
  | nil => exact fun n hn => by simp [refsF] at hn
  | cons a _ ih =>
    intro n hn
    simp only [refsF, List.mem_append] at hn
    rcases hn with hn | hn
    · exact a.lt n hn
    · exact ih n hn
section
variable {prog : Program} {w : World} {h₀ : Heap}
theorem OC.map {h : Heap} {g g' : Sg} {a : Addr} {f : Nat → Nat} : ∀ {o : AO}, (∀ n ∈ o.refs, f n < g'.H.length ∧ g'.r (f n) = g.r n) → OC prog w h g a o → OC prog w h g' a (o.map f)
  | .list _, _, e => e
  | .idict _, _, e => e
  | .sdict _, _, e => e
  | .inst _ d, q, ⟨_, e⟩ => by
    have := q d (by simp [AO.refs])
    exact ⟨this.1, by rw [this.2]; exact e⟩
  | .ns _, q, ⟨es, k, e, c⟩ => ⟨es, k, e, c.map fun m hm => q m hm⟩
  | .hid, _, e => e
theorem OC.lt {h : Heap} {g : Sg} {a : Addr} : ∀ {o : AO}, OC prog w h g a o → ∀ n ∈ o.refs, n < g.H.length
  | .list _, _, n, hn => by simp [AO.refs] at hn
  | .idict _, _, n, hn => by simp [AO.refs] at hn
  | .sdict _, _, n, hn => by simp [AO.refs] at hn
  | .inst _ d, ⟨l, _⟩, n, hn => by simp [AO.refs] at hn; exact hn ▸ l
  | .ns _, ⟨_, _, _, c⟩, n, hn => c.lt n hn
  | .hid, _, n, hn => by simp [AO.refs] at hn
theorem AO.map_hid {f : Nat → Nat} : ∀ {o : AO}, o.map f = .hid ↔ o = .hid
  | .list _ | .idict _ | .sdict _ | .inst _ _ | .ns _ | .hid => by simp [AO.map]

noncomputable def ix (L : List Nat) (m : Nat) : Nat := match L with
  | [] => 0
  | a :: r => if a = m then 0 else ix r m + 1
theorem ix_e {a m : Nat} {r : List Nat} : ix (a :: r) m = if a = m then 0 else ix r m + 1 := rfl
theorem ix_get : ∀ {L : List Nat} {m : Nat}, m ∈ L → L[ix L m]? = some m
  | a :: r, m, h => by
    rw [ix_e]
    by_cases q : a = m
    · rw [if_pos q, q]; rfl
    · rw [if_neg q]
      simpa using ix_get (L := r) ((List.mem_cons.mp h).resolve_left (Ne.symm q))
theorem ix_lt {L : List Nat} {m : Nat} (h : m ∈ L) : ix L m < L.length := (List.getElem?_eq_some_iff.mp (ix_get h)).1
noncomputable def selO (L : List Nat) (H : AH) : List Nat → AH
  | [] => []
  | m :: r => (match H[m]? with | some o => o.map (ix L) | none => .hid) :: selO L H r
theorem selO_e {L : List Nat} {H : AH} {m : Nat} {r : List Nat} : selO L H (m :: r) = (match H[m]? with | some o => o.map (ix L) | none => .hid) :: selO L H r := rfl
theorem selO_get (L : List Nat) (H : AH) : ∀ (M : List Nat) (i m : Nat) (o : AO), M[i]? = some m → H[m]? = some o → (selO L H M)[i]? = some (o.map (ix L))
  | [], i, _, _, e, _ => by simp at e
  | a :: r, 0, m, o, e, q => by
    obtain rfl : a = m := by simpa using e
    simp [selO_e, q]
  | a :: r, i + 1, m, o, e, q => by
    simp only [selO_e, List.getElem?_cons_succ]
    exact selO_get L H r i m o (by simpa using e) q
theorem selO_length (L : List Nat) (H : AH) : ∀ (M : List Nat), (selO L H M).length = M.length
  | [] => rfl
  | _ :: r => by simp [selO_e, selO_length L H r]
noncomputable def sel (L : List Nat) (H : AH) : AH := selO L H L
noncomputable def subN (l L : List Nat) : Bool := match l with
  | [] => true
  | a :: r => L.contains a && subN r L
theorem subN_iff : ∀ {l L : List Nat}, subN l L = true → ∀ n ∈ l, n ∈ L
  | [], _, _, n, h => by simp at h
  | a :: r, L, e, n, h => by
    simp only [subN, Bool.and_eq_true, List.contains_iff_mem] at e
    rcases List.mem_cons.mp h with rfl | h
    · exact e.1
    · exact subN_iff e.2 n h
noncomputable def closedO (L : List Nat) (H : AH) : List Nat → Bool
  | [] => true
  | m :: r => (match H[m]? with | some o => subN o.refs L | none => false) && closedO L H r
noncomputable def ndup : List Nat → Bool
  | [] => true
  | a :: r => !r.contains a && ndup r
theorem ndup_iff : ∀ {L : List Nat}, ndup L = true → L.Nodup
  | [], _ => .nil
  | a :: r, e => by
    simp only [ndup, Bool.and_eq_true, Bool.not_eq_true', ← Bool.not_eq_true, List.contains_iff_mem] at e
    exact List.nodup_cons.mpr ⟨e.1, ndup_iff e.2⟩
noncomputable def closed (L : List Nat) (H : AH) : Bool := closedO L H L && ndup L
theorem closedO_iff {L : List Nat} {H : AH} : ∀ {M : List Nat}, closedO L H M = true → ∀ m ∈ M, ∃ o, H[m]? = some o ∧ ∀ k ∈ o.refs, k ∈ L
  | [], _, m, h => by simp at h
  | a :: r, e, m, h => by
    simp only [closedO, Bool.and_eq_true] at e
    rcases List.mem_cons.mp h with rfl | h
    · revert e
      cases q : H[m]? with
      | none => simp
      | some o => exact fun e => ⟨o, rfl, subN_iff e.1⟩
    · exact closedO_iff e.2 m h
noncomputable def Sg.sel (g : Sg) (L : List Nat) : Sg := ⟨fun i => g.r (L[i]?.getD 0), Mine.sel L g.H⟩
theorem Sg.sel_len (g : Sg) (L : List Nat) : (g.sel L).H.length = L.length := selO_length ..
theorem Sg.sel_r {g : Sg} {L : List Nat} {m : Nat} (h : m ∈ L) : (g.sel L).r (ix L m) = g.r m := by
  show g.r ((L[ix L m]?).getD 0) = _
  rw [ix_get h]; rfl
theorem Sg.sel_at {g : Sg} {L : List Nat} (c : closed L g.H = true) {i : Nat} (hi : i < L.length) : ∃ m o, L[i]? = some m ∧ m ∈ L ∧ g.H[m]? = some o ∧ (∀ k ∈ o.refs, k ∈ L) ∧ (g.sel L).H[i]? = some (o.map (ix L)) ∧ (g.sel L).r i = g.r m := by
  have e : L[i]? = some L[i] := List.getElem?_eq_getElem hi
  have hm : L[i] ∈ L := List.getElem_mem hi
  obtain ⟨o, ho, hk⟩ := closedO_iff (Bool.and_eq_true_iff.mp c).1 _ hm
  exact ⟨_, o, e, hm, ho, hk, selO_get _ _ _ _ _ _ e ho, by show g.r ((L[i]?).getD 0) = _; rw [e]; rfl⟩
theorem Sg.sel_ref {g : Sg} {L : List Nat} {m : Nat} (h : m ∈ L) : ix L m < (g.sel L).H.length ∧ (g.sel L).r (ix L m) = g.r m := ⟨by rw [Sg.sel_len]; exact ix_lt h, Sg.sel_r h⟩
theorem St.sel {s : Shared} {g : Sg} (S : St prog w h₀ s g) {L : List Nat} (c : closed L g.H = true) : St prog w h₀ s (g.sel L) := by
  refine ⟨S.keep, fun i o' e => ?_, fun i j hi hj e => ?_, fun i hi => ?_⟩
  · have hi : i < L.length := by rw [← Sg.sel_len g L]; exact (List.getElem?_eq_some_iff.mp e).1
    obtain ⟨m, o, _, _, ho, hk, e', er⟩ := Sg.sel_at c hi
    rw [e'] at e
    cases e
    rw [er]
    exact (S.obj m o ho).map fun k hk' => Sg.sel_ref (hk k hk')
  · rw [Sg.sel_len] at hi hj
    obtain ⟨m, o, q1, _, ho, _, _, er⟩ := Sg.sel_at c hi
    obtain ⟨m', o', q2, _, ho', _, _, er'⟩ := Sg.sel_at c hj
    rw [er, er'] at e
    have := S.inj m m' (List.getElem?_eq_some_iff.mp ho).1 (List.getElem?_eq_some_iff.mp ho').1 e
    subst this
    have nd := ndup_iff (Bool.and_eq_true_iff.mp c).2
    exact (List.getElem?_inj hi nd).mp (q1.trans q2.symm)
  · rw [Sg.sel_len] at hi
    obtain ⟨m, o, _, _, ho, _, _, er⟩ := Sg.sel_at c hi
    rw [er]
    exact S.new m (List.getElem?_eq_some_iff.mp ho).1
theorem SC.sel {h : Heap} {g : Sg} {L : List Nat} {v : Value} {x : SV} (q : SC h g.r g.H.length v x) (hx : ∀ k ∈ x.refs, k ∈ L) : SC h (g.sel L).r (g.sel L).H.length v (x.map (ix L)) := q.map fun k hk => Sg.sel_ref (hx k hk)
theorem SCs.sel {h : Heap} {g : Sg} {L : List Nat} {v : List Value} {x : List SV} (q : SCs h g.r g.H.length v x) (hx : ∀ k ∈ SV.refss x, k ∈ L) : SCs h (g.sel L).r (g.sel L).H.length v (SV.maps (ix L) x) := q.map fun k hk => Sg.sel_ref (hx k hk)
theorem Po.sel {s s' : Shared} {g g' : Sg} {X : Addr → Prop} (P : Po prog w h₀ s g s' g' X) {L : List Nat} (c : closed L g'.H = true) (hL : ∀ i, i < g.H.length → L[i]? = some i)  :
    Po prog w h₀ s g s' (g'.sel L) X := by
  have len : g.H.length ≤ L.length := by
    by_cases q : g.H.length = 0
    · rw [q]; exact Nat.zero_le _
    · have := hL (g.H.length - 1) (by omega)
      have := (List.getElem?_eq_some_iff.mp this).1
      omega
  refine ⟨P.ev, P.st.sel c, by rw [Sg.sel_len]; exact len, fun i hi => ?_, fun i hi => ?_, fun i h1 h2 => ?_⟩
  · show g'.r ((L[i]?).getD 0) = _
    rw [hL i hi]; exact P.agree i hi
  · rw [P.hid i hi]
    obtain ⟨m, o, q1, _, ho, _, e', _⟩ := Sg.sel_at c (Nat.lt_of_lt_of_le hi len)
    rw [hL i hi] at q1
    cases q1
    rw [e', ho, Option.some.injEq, Option.some.injEq, AO.map_hid]
  · rw [Sg.sel_len] at h2
    obtain ⟨m, o, q1, _, ho, _, _, er⟩ := Sg.sel_at c h2
    rw [er]
    refine P.fresh m ?_ (List.getElem?_eq_some_iff.mp ho).1
    refine Nat.le_of_not_lt fun hm => ?_
    have nd := ndup_iff (Bool.and_eq_true_iff.mp c).2
    have : i = m := (List.getElem?_inj h2 nd).mp (q1.trans (hL m hm).symm)
    exact absurd hm (Nat.not_lt_of_le (this ▸ h1))
end
end Mine

namespace Mine
open PySem PySem.W PySem.Calls PyProof.Rows

noncomputable def unr (L : List Nat) (N i : Nat) : Nat := match L[i]? with
  | some m => m
  | none => N + (i - L.length)
noncomputable def wbOld (L : List Nat) (N : Nat) (Hc : AH) : Nat → AH → AH
  | _, [] => []
  | m, o :: r => (if L.contains m then (match Hc[ix L m]? with | some o' => o'.map (unr L N) | none => o) else o) :: wbOld L N Hc (m + 1) r
theorem wbOld_e1 {L : List Nat} {N m : Nat} {Hc : AH} : wbOld L N Hc m [] = [] := rfl
theorem wbOld_e2 {L : List Nat} {N m : Nat} {Hc : AH} {o : AO} {r : AH} : wbOld L N Hc m (o :: r) = (if L.contains m then (match Hc[ix L m]? with | some o' => o'.map (unr L N) | none => o) else o) :: wbOld L N Hc (m + 1) r := rfl
noncomputable def mapsO (f : Nat → Nat) : AH → AH
  | [] => []
  | o :: r => o.map f :: mapsO f r
theorem mapsO_e1 {f : Nat → Nat} : mapsO f [] = [] := rfl
theorem mapsO_e2 {f : Nat → Nat} {o : AO} {r : AH} : mapsO f (o :: r) = o.map f :: mapsO f r := rfl
noncomputable def wb (L : List Nat) (H Hc : AH) : AH := wbOld L H.length Hc 0 H ++ mapsO (unr L H.length) (Hc.drop L.length)
theorem mapsO_length (f : Nat → Nat) : ∀ H : AH, (mapsO f H).length = H.length
  | [] => rfl
  | _ :: r => by simp [mapsO_e2, mapsO_length f r]
theorem mapsO_get (f : Nat → Nat) : ∀ (H : AH) (i : Nat), (mapsO f H)[i]? = (H[i]?).map (AO.map f)
  | [], i => by simp [mapsO_e1]
  | o :: r, 0 => by simp [mapsO_e2]
  | o :: r, i + 1 => by simp [mapsO_e2, mapsO_get f r i]
theorem wbOld_length (L : List Nat) (N : Nat) (Hc : AH) : ∀ (H : AH) (m : Nat), (wbOld L N Hc m H).length = H.length
  | [], _ => rfl
  | _ :: r, m => by simp [wbOld_e2, wbOld_length L N Hc r]
theorem wbOld_get (L : List Nat) (N : Nat) (Hc : AH) : ∀ (H : AH) (m i : Nat) (o : AO), H[i]? = some o →
    (wbOld L N Hc m H)[i]? = some (if L.contains (m + i) then (match Hc[ix L (m + i)]? with | some o' => o'.map (unr L N) | none => o) else o)
  | [], _, _, _, e => by simp at e
  | a :: r, m, 0, o, e => by
    obtain rfl : a = o := by simpa using e
    simp [wbOld_e2]
  | a :: r, m, i + 1, o, e => by
    simp only [wbOld_e2, List.getElem?_cons_succ]
    rw [wbOld_get L N Hc r (m + 1) i o (by simpa using e), show m + 1 + i = m + (i + 1) by omega]
theorem wb_length (L : List Nat) (H Hc : AH) : (wb L H Hc).length = H.length + (Hc.length - L.length) := by
  simp [wb, wbOld_length, mapsO_length]
theorem wb_old {L : List Nat} {H Hc : AH} {m : Nat} {o : AO} (e : H[m]? = some o) : (wb L H Hc)[m]? = some (if L.contains m then (match Hc[ix L m]? with | some o' => o'.map (unr L H.length) | none => o) else o) := by
  unfold wb
  rw [List.getElem?_append_left (by rw [wbOld_length]; exact (List.getElem?_eq_some_iff.mp e).1), wbOld_get _ _ _ _ _ _ _ e, Nat.zero_add]
theorem wb_new (L : List Nat) (H Hc : AH) (j : Nat) : (wb L H Hc)[H.length + j]? = (Hc[L.length + j]?).map (AO.map (unr L H.length)) := by
  unfold wb
  rw [List.getElem?_append_right (by rw [wbOld_length]; omega), wbOld_length, mapsO_get, List.getElem?_drop, show H.length + j - H.length = j by omega]
noncomputable def Sg.wb (g : Sg) (L : List Nat) (gc : Sg) : Sg := ⟨fun m => if m < g.H.length then g.r m else gc.r (L.length + (m - g.H.length)), Mine.wb L g.H gc.H⟩
section
variable {prog : Program} {w : World} {h₀ : Heap}
theorem Sg.wb_len (g : Sg) (L : List Nat) (gc : Sg) : (g.wb L gc).H.length = g.H.length + (gc.H.length - L.length) := wb_length ..
theorem Sg.wb_ref {s s' : Shared} {g gc : Sg} {L : List Nat} (c : closed L g.H = true) (P : Po prog w h₀ s (g.sel L) s' gc NoX) {i : Nat} (hi : i < gc.H.length) :
    unr L g.H.length i < (g.wb L gc).H.length ∧ (g.wb L gc).r (unr L g.H.length i) = gc.r i := by
  rw [Sg.wb_len]
  have hl := P.len
  rw [Sg.sel_len] at hl
  by_cases q : i < L.length
  · obtain ⟨m, o, e, hm, ho, _, _, er⟩ := Sg.sel_at c q
    have hlt := (List.getElem?_eq_some_iff.mp ho).1
    have hu : unr L g.H.length i = m := by unfold unr; rw [e]
    rw [hu]
    refine ⟨by omega, ?_⟩
    show (if m < g.H.length then _ else _) = _
    rw [if_pos hlt, ← er]
    exact (P.agree i (by rw [Sg.sel_len]; exact q)).symm
  · have hu : unr L g.H.length i = g.H.length + (i - L.length) := by
      unfold unr
      rw [List.getElem?_eq_none (Nat.le_of_not_lt q)]
    rw [hu]
    refine ⟨by omega, ?_⟩
    show (if g.H.length + (i - L.length) < g.H.length then _ else _) = _
    rw [if_neg (by omega), show L.length + (g.H.length + (i - L.length) - g.H.length) = i by omega]
theorem SC.wb {s s' : Shared} {g gc : Sg} {L : List Nat} (c : closed L g.H = true) (P : Po prog w h₀ s (g.sel L) s' gc NoX) {v : Value} {x : SV} (q : SC s'.heap gc.r gc.H.length v x) :
    SC s'.heap (g.wb L gc).r (g.wb L gc).H.length v (x.map (unr L g.H.length)) := q.map fun k hk => Sg.wb_ref c P (q.lt k hk)
theorem Po.call {s s' : Shared} {g gc : Sg} {L : List Nat} (S : St prog w h₀ s g) (c : closed L g.H = true) (P : Po prog w h₀ s (g.sel L) s' gc NoX) : Po prog w h₀ s g s' (g.wb L gc) NoX := by
  have hl := P.len
  rw [Sg.sel_len] at hl
  have hr : ∀ m, m < g.H.length → (g.wb L gc).r m = g.r m := fun m hm => if_pos hm
  have own : ∀ b, Own (g.sel L) b → Own g b := by
    rintro b ⟨i, o', e, ne, rfl⟩
    have hi : i < L.length := by rw [← Sg.sel_len g L]; exact (List.getElem?_eq_some_iff.mp e).1
    obtain ⟨m, o, _, _, ho, _, e', er⟩ := Sg.sel_at c hi
    rw [e'] at e
    cases e
    exact ⟨m, o, ho, fun q => ne (AO.map_hid.mpr q), er.symm⟩
  have notin : ∀ m o, g.H[m]? = some o → ¬ m ∈ L → ∀ ob, s.heap.get? (g.r m) = some ob → s'.heap.get? (g.r m) = some ob := by
    intro m o ho hm ob e
    refine P.ev.frame _ ob e ?_
    rintro (x | ⟨i, o', e', _, er⟩)
    · exact x
    · have hi : i < L.length := by rw [← Sg.sel_len g L]; exact (List.getElem?_eq_some_iff.mp e').1
      obtain ⟨m', o2, _, hm', ho2, _, _, er'⟩ := Sg.sel_at c hi
      rw [er'] at er
      exact hm (S.inj m' m (List.getElem?_eq_some_iff.mp ho2).1 (List.getElem?_eq_some_iff.mp ho).1 er ▸ hm')
  refine ⟨⟨P.ev.same, P.ev.size, fun b o e nx => P.ev.frame b o e fun q => nx (q.imp id (own b)), P.ev.tk⟩, ⟨P.st.keep, fun m o' e => ?_, fun m k hm hk e => ?_, fun m hm => ?_⟩, by rw [Sg.wb_len]; omega, hr, fun m hm => ?_, fun m h1 h2 => ?_⟩
  · by_cases q : m < g.H.length
    · rw [hr m q]
      have ho : g.H[m]? = some g.H[m] := List.getElem?_eq_getElem q
      have e' := wb_old (L := L) (Hc := gc.H) ho
      have e2 : (g.wb L gc).H[m]? = (Mine.wb L g.H gc.H)[m]? := rfl
      rw [e2, e'] at e
      by_cases hm : m ∈ L
      · rw [if_pos (List.contains_iff_mem.mpr hm)] at e
        have hi : ix L m < gc.H.length := Nat.lt_of_lt_of_le (ix_lt hm) hl
        have hg : gc.H[ix L m]? = some gc.H[ix L m] := List.getElem?_eq_getElem hi
        rw [hg] at e
        cases e
        have := P.st.obj _ _ hg
        rw [P.agree _ (by rw [Sg.sel_len]; exact ix_lt hm), Sg.sel_r hm] at this
        exact this.map fun k hk => Sg.wb_ref c P (this.lt k hk)
      · rw [if_neg (fun x => hm (List.contains_iff_mem.mp x))] at e
        cases e
        exact (S.obj m _ ho).move (notin m _ ho hm) P.ev.tk hr (by rw [Sg.wb_len]; omega)
    · have hm := (List.getElem?_eq_some_iff.mp e).1
      rw [Sg.wb_len] at hm
      have e2 : (g.wb L gc).H[m]? = (Mine.wb L g.H gc.H)[g.H.length + (m - g.H.length)]? := by rw [show g.H.length + (m - g.H.length) = m by omega]; rfl
      rw [e2, wb_new] at e
      obtain ⟨o, ho, rfl⟩ := Option.map_eq_some_iff.mp e
      have := P.st.obj _ _ ho
      have er : (g.wb L gc).r m = gc.r (L.length + (m - g.H.length)) := if_neg q
      rw [er]
      exact this.map fun k hk => Sg.wb_ref c P (this.lt k hk)
  · rw [Sg.wb_len] at hm hk
    have new : ∀ x, ¬ x < g.H.length → x < g.H.length + (gc.H.length - L.length) → s.heap.objs.size ≤ (g.wb L gc).r x := fun x h1 h2 => by
      show _ ≤ (if x < g.H.length then _ else _)
      rw [if_neg h1]
      exact P.fresh _ (by rw [Sg.sel_len]; omega) (by omega)
    by_cases h1 : m < g.H.length
    · by_cases h2 : k < g.H.length
      · rw [hr m h1, hr k h2] at e; exact S.inj m k h1 h2 e
      · exfalso
        rw [hr m h1] at e
        have := new k h2 hk
        rw [← e] at this
        exact absurd (S.lt h1) (Nat.not_lt_of_le this)
    · by_cases h2 : k < g.H.length
      · exfalso
        rw [hr k h2] at e
        have := new m h1 hm
        rw [e] at this
        exact absurd (S.lt h2) (Nat.not_lt_of_le this)
      · have e' : gc.r (L.length + (m - g.H.length)) = gc.r (L.length + (k - g.H.length)) := by
          have a : (g.wb L gc).r m = _ := if_neg h1
          have b : (g.wb L gc).r k = _ := if_neg h2
          rw [← a, ← b, e]
        have := P.st.inj _ _ (by omega) (by omega) e'
        omega
  · rw [Sg.wb_len] at hm
    by_cases h1 : m < g.H.length
    · rw [hr m h1]; exact S.new m h1
    · have a : (g.wb L gc).r m = gc.r (L.length + (m - g.H.length)) := if_neg h1
      rw [a]
      exact P.st.new _ (by omega)
  · have ho : g.H[m]? = some g.H[m] := List.getElem?_eq_getElem hm
    have e' := wb_old (L := L) (Hc := gc.H) ho
    show _ ↔ (Mine.wb L g.H gc.H)[m]? = _
    rw [e', ho]
    by_cases hL : m ∈ L
    · rw [if_pos (List.contains_iff_mem.mpr hL)]
      have hi : ix L m < gc.H.length := Nat.lt_of_lt_of_le (ix_lt hL) hl
      have hg : gc.H[ix L m]? = some gc.H[ix L m] := List.getElem?_eq_getElem hi
      rw [hg]
      have := P.hid (ix L m) (by rw [Sg.sel_len]; exact ix_lt hL)
      obtain ⟨m', o, q1, _, ho', _, e2, _⟩ := Sg.sel_at c (ix_lt hL)
      rw [ix_get hL] at q1
      cases q1
      rw [ho] at ho'
      cases ho'
      rw [e2, hg, Option.some.injEq, Option.some.injEq, AO.map_hid] at this
      rw [Option.some.injEq, Option.some.injEq, AO.map_hid]
      exact this
    · rw [if_neg (fun x => hL (List.contains_iff_mem.mp x))]
  · rw [Sg.wb_len] at h2
    have a : (g.wb L gc).r m = gc.r (L.length + (m - g.H.length)) := if_neg (Nat.not_lt_of_le h1)
    rw [a]
    exact P.fresh _ (by rw [Sg.sel_len]; omega) (by omega)
end
end Mine

namespace Mine
open PySem PySem.W PySem.Calls PyProof.Rows

noncomputable def btab : List (Str × Value) := [(sn "isinstance", .builtin "isinstance"), (sn "int", .type "int"), (sn "bool", .type "bool"), (sn "tuple", .type "tuple"), (sn "len", .builtin "len"), (sn "str", .type "str"),
  (sn "ord", .builtin "ord"), (sn "range", .type "range"), (sn "bytes", .type "bytes"), (sn "list", .type "list"), (sn "chr", .builtin "chr"), (sn "abs", .builtin "abs"), (sn "sum", .builtin "sum"), (sn "sorted", .builtin "sorted")]
theorem btab_ok : btab.map (fun e => bootBuiltins e.1) = btab.map fun e => some e.2 := by kernel_rfl
theorem btab_name : btab.all (fun e => e.1 != sn "__name__") = true := by decide +kernel
noncomputable def tupT : List (Addr × List Value) := [(124, tv124), (125, tv125), (382, tv382), (383, tv383)]
theorem tupT_ok (P : Params) : tupT.map (fun e => (K P).lookup e.1) = tupT.map fun e => some (tupo e.2) := by kernel_rfl
noncomputable def absP : Value → PV
  | .int i _ => .int i
  | .str x _ => .str x
  | .bool b => .bool b
  | _ => .none
noncomputable def primV : Value → Bool
  | .int .. => true
  | .str .. => true
  | .bool _ => true
  | .none => true
  | _ => false
theorem tupT_prim : tupT.all (fun e => e.2.all primV) = true := by decide +kernel
noncomputable def lkA (a : Addr) : List (Addr × List Value) → Option (List Value)
  | [] => none
  | (b, l) :: r => if b = a then some l else lkA a r
theorem lkA_e {a b : Addr} {l : List Value} {r : List (Addr × List Value)} : lkA a ((b, l) :: r) = if b = a then some l else lkA a r := rfl
noncomputable def absR (a : Addr) : SV := match lkA a tupT with
  | some vs => .p (.tup (vs.map absP))
  | none => .raw (.ref a)
noncomputable def absV : Value → SV
  | .int i _ => .p (.int i)
  | .str x _ => .p (.str x)
  | .ref a => absR a
  | v => .raw v
noncomputable def mapE (l : List (Str × Tok × Value)) : List (Str × SV) := l.map fun e => (e.1, absV e.2.2)
noncomputable def mapB (l : List (Str × Value)) : List (Str × SV) := l.map fun e => (e.1, .raw e.2)
noncomputable def gsv : List (Str × SV) := mapE mainE ++ mapB btab
theorem lk_mem {α : Type} {x : Str} {v : α} : ∀ {l : List (Str × α)}, lk x l = some v → (x, v) ∈ l
  | [], e => noS e
  | (y, u) :: r, e => by
    rw [lk_e2] at e
    by_cases q : y = x
    · rw [if_pos q] at e; cases e; subst q; exact .head _
    · rw [if_neg q] at e; exact .tail _ (lk_mem e)
theorem lk_append {α : Type} {x : Str} : ∀ {l r : List (Str × α)}, lk x (l ++ r) = (lk x l).or (lk x r)
  | [], r => rfl
  | (y, u) :: l, r => by
    simp only [List.cons_append, lk_e2]
    by_cases q : y = x
    · rw [if_pos q, if_pos q]; rfl
    · rw [if_neg q, if_neg q]; exact lk_append
theorem lkA_mem {a : Addr} {vs : List Value} : ∀ {l : List (Addr × List Value)}, lkA a l = some vs → (a, vs) ∈ l
  | [], e => noS e
  | (y, u) :: r, e => by
    rw [lkA_e] at e
    by_cases q : y = a
    · rw [if_pos q] at e; cases e; subst q; exact .head _
    · rw [if_neg q] at e; exact .tail _ (lkA_mem e)
theorem PC.absP {h : Heap} : ∀ {v : Value}, primV v = true → PC h v (absP v)
  | .int i t, _ => .int i t
  | .str x t, _ => .str x t
  | .bool b, _ => .bool b
  | .none, _ => .none
theorem PCs.absP {h : Heap} : ∀ {vs : List Value}, vs.all primV = true → PCs h vs (vs.map Mine.absP)
  | [], _ => .nil
  | v :: r, e => by
    simp only [List.all_cons, Bool.and_eq_true] at e
    exact .cons (PC.absP e.1) (PCs.absP e.2)
theorem SC.absV {P : Params} {h : Heap} (X : (K P).In h) (r : Nat → Addr) (N : Nat) (v : Value) : SC h r N v (absV v) := by
  cases v with
  | int i t => exact .p (.int _ _)
  | str x t => exact .p (.str _ _)
  | ref a =>
    show SC h r N (.ref a) (absR a)
    unfold absR
    cases e : lkA a tupT with
    | some vs =>
      have m := lkA_mem e
      have h1 : (K P).lookup a = some (tupo vs) := (List.map_inj_left.mp (tupT_ok P)) (a, vs) m
      exact .p (.tup (X a _ h1) rfl rfl (by simpa using PCs.absP (List.all_eq_true.mp tupT_prim _ m)))
    | none => exact .raw _
  | _ => exact .raw _
theorem mainE_find (P : Params) (x : Str) : ∀ (l : List (Str × Tok × Value)), nsFind (l.map fun e => (⟨PyData.keyHash P e.1, .str e.1 e.2.1, e.2.2⟩ : DictEntry)).toArray x = lk x (l.map fun e => (e.1, e.2.2))
  | [] => rfl
  | (y, t, v) :: r => by
    have ih := mainE_find P x r
    simp only [nsFind, findBy, List.find?_toArray] at ih ⊢
    simp only [List.map_cons, List.find?_cons, Value.isStr, lk_e2]
    by_cases q : y = x
    · subst q; simp
    · rw [if_neg q, beq_eq_false_iff_ne.mpr q]; exact ih
theorem lk_mapE {x : Str} {sv : SV} : ∀ {l : List (Str × Tok × Value)}, lk x (mapE l) = some sv → ∃ v, lk x (l.map fun e => (e.1, e.2.2)) = some v ∧ sv = absV v
  | [], e => noS e
  | (y, t, v) :: r, e => by
    simp only [mapE, List.map_cons, lk_e2] at e ⊢
    by_cases q : y = x
    · rw [if_pos q] at e ⊢; cases e; exact ⟨_, rfl, rfl⟩
    · rw [if_neg q] at e ⊢; exact lk_mapE e
theorem lk_mapE_none {x : Str} : ∀ {l : List (Str × Tok × Value)}, lk x (mapE l) = none → lk x (l.map fun e => (e.1, e.2.2)) = none
  | [], e => rfl
  | (y, t, v) :: r, e => by
    simp only [mapE, List.map_cons, lk_e2] at e ⊢
    by_cases q : y = x
    · rw [if_pos q] at e; cases e
    · rw [if_neg q] at e ⊢; exact lk_mapE_none e

structure Bs (w : World) (h₀ : Heap) : Prop where
  k : (K w.params).In h₀
  nolim : h₀.NoLimit
  bi : ∃ mb, h₀.Ns builtinsNs mb ∧ ∀ x : Str, x ≠ "__name__" → mb x = bootBuiltins x
theorem look_main (P : Params) : (K P).lookup 3 = some (nso P 75 mainE) := by kernel_rfl
theorem Bs.main {w : World} {h₀ : Heap} (B : Bs w h₀) : h₀.Ns mainGlobals fun x => lk x (mainE.map fun e => (e.1, e.2.2)) := by
  refine ⟨_, _, _, B.k 3 _ (look_main _), rfl, fun e he => ?_, fun x => mainE_find w.params x mainE⟩
  simp only [List.mem_toArray, List.mem_map] at he
  obtain ⟨a, _, rfl⟩ := he
  exact ⟨_, _, rfl⟩
section
variable {M : Model} {A : Around} {E : Value → Shared → Prop} {s : Shared} {env : Env} {w : World} {h₀ : Heap}
theorem wp_global (B : Bs w h₀) (keep : ∀ b o, h₀.get? b = some o → s.heap.get? b = some o) (hk : env.scope.kind = .function) (hg : env.globals = mainGlobals) (hb : env.builtins = builtinsNs) {x : Str} {sv : SV}
    (e : lk x gsv = some sv) (hx : env.kindOf x = some .globalImplicit) (r : Nat → Addr) (N : Nat) {Q : Value → Shared → Prop} (h : ∀ v, SC s.heap r N v sv → Q v s) : wpAny M A (loadName env x) Q E s := by
  rw [loadName_read hk hx]
  unfold loadGlobal
  rw [hg, hb]
  refine wpAny_bind (wpAny_nsGet (B.main.keeps keep) ?_)
  unfold gsv at e
  rw [lk_append] at e
  cases q : lk x (mapE mainE) with
  | some sv' =>
    rw [q] at e
    cases e
    obtain ⟨v, hv, rfl⟩ := lk_mapE q
    rw [hv]
    exact wpAny_pure (h v (SC.absV (B.k.keeps keep) r N v))
  | none =>
    rw [q] at e
    rw [lk_mapE_none q]
    have e : lk x (mapB btab) = some sv := e
    have m := lk_mem e
    simp only [mapB, List.mem_map] at m
    obtain ⟨⟨y, v⟩, hm, hy⟩ := m
    simp only [Prod.mk.injEq] at hy
    obtain ⟨rfl, rfl⟩ := hy
    obtain ⟨mb, hmb, hb2⟩ := B.bi
    have hn : y ≠ "__name__" := by simpa using List.all_eq_true.mp btab_name _ hm
    have hv : mb y = some v := (hb2 y hn).trans (List.map_inj_left.mp btab_ok _ hm)
    refine wpAny_bind (wpAny_nsGet (hmb.keeps keep) ?_)
    rw [hv]
    exact wpAny_pure (h v (.raw v))
end
noncomputable def gofP (k : Option NameKind) (v : Option SV) (x : Str) (r : List (Str × SV)) : List (Str × SV) := match k with
  | some k => (match k with
    | .globalImplicit => (match v with
      | some sv => (x, sv) :: r
      | none => r)
    | _ => r)
  | none => r
noncomputable def gofL (ns : List (Str × NameKind)) : List (Str × NameKind) → List (Str × SV)
  | [] => []
  | (x, _) :: r => gofP (ns.lookup x) (lk x gsv) x (gofL ns r)
noncomputable def gOf (sc : Scope) : List (Str × SV) := gofL sc.names sc.names
theorem gofL_ok {ns : List (Str × NameKind)} {x : Str} {sv : SV} : ∀ {l : List (Str × NameKind)}, lk x (gofL ns l) = some sv → ns.lookup x = some .globalImplicit ∧ lk x gsv = some sv
  | [], e => noS e
  | (y, k) :: r, e => by
    have e : lk x (gofP (ns.lookup y) (lk y gsv) y (gofL ns r)) = some sv := e
    cases h1 : ns.lookup y with
    | none => rw [h1] at e; exact gofL_ok e
    | some k2 =>
      rw [h1] at e
      cases k2 with
      | globalImplicit =>
        cases h2 : lk y gsv with
        | none => rw [h2] at e; exact gofL_ok e
        | some u =>
          rw [h2] at e
          by_cases q : y = x
          · cases (if_pos q).symm.trans e; subst q; exact ⟨h1, h2⟩
          · exact gofL_ok ((if_neg q).symm.trans e)
      | _ => exact gofL_ok e
end Mine

namespace Mine
open PySem PySem.W PySem.Calls PyProof.Rows

noncomputable abbrev Kv := SV → AH → Prop
structure Rm (A : Around) (k : Nat) : Prop where
  hd : A.handled = none
  dp : A.depth + k ≤ 900
  un : A.units + 16 * k + 200 ≤ cLine
theorem Rm.eq {A : Around} {k : Nat} (R : Rm A k) : A.units + 64 < cLine := by have := R.un; omega
theorem Rm.room {A : Around} {k : Nat} (R : Rm A k) : A.depth < recursionLimit := by have := R.dp; show _ < 1000; omega
theorem Rm.less {A : Around} {k j : Nat} (R : Rm A k) (h : j ≤ k) : Rm A j := ⟨R.hd, by have := R.dp; omega, by have := R.un; omega⟩

section
variable (prog : Program) (w : World) (h₀ : Heap)
noncomputable def Gives (s : Shared) (g : Sg) (K : Kv) (Q : Value → Shared → Prop) : Prop := ∀ v sv s' g', Po prog w h₀ s g s' g' NoX → SC s'.heap g'.r g'.H.length v sv → K sv g'.H → Q v s'
end
mutual
noncomputable def PV.py : PV → PyData
  | .none => .none
  | .bool b => .bool b
  | .int i => .int i
  | .str s => .str s
  | .bytes _ => .none
  | .tup l => .tuple (PV.pys l)
noncomputable def PV.pys : List PV → List PyData
  | [] => []
  | x :: r => x.py :: PV.pys r
end
mutual
noncomputable def PV.plain : PV → Bool
  | .bytes _ => false
  | .tup l => PV.plains l
  | .none => true
  | .bool _ => true
  | .int _ => true
  | .str _ => true
noncomputable def PV.plains : List PV → Bool
  | [] => true
  | x :: r => x.plain && PV.plains r
end
theorem PC.reads {h : Heap} {v : Value} {x : PV} (c : PC h v x) : x.plain = true → Reads h v x.py [] :=
  PC.rec (motive_1 := fun v x _z => x.plain = true → Reads h v x.py []) (motive_2 := fun v x _z => PV.plains x = true → ReadsAll h v (PV.pys x) []) (fun _z => .none) (fun b _z => .bool b) (fun i t _z => .int i t) (fun x t _z => .str x t) (fun x t e => nomatch e)
    (fun a b c _z ih e => .tuple a b c (ih (by simpa only [PV.plain] using e))) (fun _z => .nil) (fun _z _z i1 i2 e => by
      obtain ⟨e1, e2⟩ := Bool.and_eq_true_iff.mp (show (PV.plain _ && PV.plains _) = true from e)
      exact .cons (i1 e1) (i2 e2)) c
theorem PCs.reads {h : Heap} {v : List Value} {x : List PV} (c : PCs h v x) : PV.plains x = true → ReadsAll h v (PV.pys x) [] :=
  c.ind (M := fun v x => PV.plains x = true → ReadsAll h v (PV.pys x) []) (fun _z => .nil) fun _z _z _z _z a _z ih e => by
    obtain ⟨e1, e2⟩ := Bool.and_eq_true_iff.mp (show (PV.plain _ && PV.plains _) = true from e)
    exact .cons (a.reads e1) (ih e2)
noncomputable def eqOk (x : PV) : Bool := x.plain && SeqAt.shaped x.py
noncomputable def eqsOk (l : List PV) : Bool := PV.plains l && SeqAt.shaped (.list (PV.pys l))

theorem SC.pc_of {h : Heap} {r : Nat → Addr} {N : Nat} {v : Value} {x : PV} (c : SC h r N v (.p x)) : PC h v x := by
  cases c with | p c => exact c
theorem SC.ref_of {h : Heap} {r : Nat → Addr} {N n : Nat} {v : Value} (c : SC h r N v (.ref n)) : ∃ _ : n < N, v = .ref (r n) := by
  cases c with | ref hn => exact ⟨hn, rfl⟩
theorem SC.int_of {h : Heap} {r : Nat → Addr} {N : Nat} {v : Value} {i : Int} (c : SC h r N v (.p (.int i))) : ∃ t, v = .int i t := by
  cases c.pc_of with | int _ t => exact ⟨t, rfl⟩
theorem SC.str_of {h : Heap} {r : Nat → Addr} {N : Nat} {v : Value} {i : Str} (c : SC h r N v (.p (.str i))) : ∃ t, v = .str i t := by
  cases c.pc_of with | str _ t => exact ⟨t, rfl⟩
theorem SC.bytes_of {h : Heap} {r : Nat → Addr} {N : Nat} {v : Value} {i : Array UInt8} (c : SC h r N v (.p (.bytes i))) : ∃ t, v = .bytes i t := by
  cases c.pc_of with | bytes _ t => exact ⟨t, rfl⟩
theorem SC.bool_of {h : Heap} {r : Nat → Addr} {N : Nat} {v : Value} {b : Bool} (c : SC h r N v (.p (.bool b))) : v = .bool b := by
  cases c.pc_of with | bool _ => rfl
theorem SC.none_of {h : Heap} {r : Nat → Addr} {N : Nat} {v : Value} (c : SC h r N v (.p .none)) : v = .none := by
  cases c.pc_of with | none => rfl
theorem SC.tup_of {h : Heap} {r : Nat → Addr} {N : Nat} {v : Value} {l : List PV} (c : SC h r N v (.p (.tup l))) : ∃ (a : Addr) (o : Obj) (vs : Array Value) (n : Nat), v = .ref a ∧ h.get? a = some o ∧ o.cls = .type "tuple" ∧ o.data = .seq vs n ∧ PCs h vs.toList l := by
  cases c.pc_of with | tup e1 c1 d1 q1 => exact ⟨_, _, _, _, rfl, e1, c1, d1, q1⟩
noncomputable def asInt (x : SV) (k : Int → Prop) : Prop := match x with
  | .p x => (match x with
    | .int v => k v
    | _ => False)
  | _ => False
theorem asInt_of {x : SV} {k : Int → Prop} (h : asInt x k) : ∃ v, x = .p (.int v) ∧ k v := by
  cases x with
  | p x => cases x with
    | int v => exact ⟨v, rfl, h⟩
    | _ => exact (show False from h).elim
  | _ => exact (show False from h).elim
noncomputable def asStr (x : SV) (k : Str → Prop) : Prop := match x with
  | .p x => (match x with
    | .str v => k v
    | _ => False)
  | _ => False
theorem asStr_of {x : SV} {k : Str → Prop} (h : asStr x k) : ∃ v, x = .p (.str v) ∧ k v := by
  cases x with
  | p x => cases x with
    | str v => exact ⟨v, rfl, h⟩
    | _ => exact (show False from h).elim
  | _ => exact (show False from h).elim
noncomputable def asPV (x : SV) (k : PV → Prop) : Prop := match x with
  | .p v => k v
  | _ => False
theorem asPV_of {x : SV} {k : PV → Prop} (h : asPV x k) : ∃ v, x = .p v ∧ k v := by
  cases x with
  | p v => exact ⟨v, rfl, h⟩
  | _ => exact (show False from h).elim
noncomputable def asSome {α : Type} (x : Option α) (k : α → Prop) : Prop := match x with
  | some v => k v
  | none => False
theorem asSome_of {α : Type} {x : Option α} {k : α → Prop} (h : asSome x k) : ∃ v, x = some v ∧ k v := by
  cases x with
  | some v => exact ⟨v, rfl, h⟩
  | none => exact (show False from h).elim
noncomputable def asRef (x : SV) (k : Nat → Prop) : Prop := match x with
  | .ref m => k m
  | _ => False
theorem asRef_of {x : SV} {k : Nat → Prop} (h : asRef x k) : ∃ m, x = .ref m ∧ k m := by
  cases x with
  | ref m => exact ⟨m, rfl, h⟩
  | _ => exact (show False from h).elim
noncomputable def asCons (l : List SV) (k : SV → List SV → Prop) : Prop := match l with
  | [] => False
  | a :: r => k a r
theorem asCons_of {l : List SV} {k : SV → List SV → Prop} (h : asCons l k) : ∃ a r, l = a :: r ∧ k a r := by
  cases l with
  | nil => exact (show False from h).elim
  | cons a r => exact ⟨a, r, rfl, h⟩
theorem SCs.uncons {h : Heap} {r : Nat → Addr} {N : Nat} {vs : List Value} {x : SV} {l : List SV} (c : SCs h r N vs (x :: l)) : ∃ v vs', vs = v :: vs' ∧ SC h r N v x ∧ SCs h r N vs' l := by
  cases c with | cons a b => exact ⟨_, _, rfl, a, b⟩
theorem SCs.unnil {h : Heap} {r : Nat → Addr} {N : Nat} {vs : List Value} (c : SCs h r N vs []) : vs = [] := by
  cases c; rfl
noncomputable def asList (x : Option AO) (k : List PV → Prop) : Prop := match x with
  | some o => (match o with
    | .list l => k l
    | _ => False)
  | none => False
theorem asList_of {x : Option AO} {k : List PV → Prop} (h : asList x k) : ∃ l, x = some (.list l) ∧ k l := by
  cases x with
  | some o => cases o with
    | list l => exact ⟨l, rfl, h⟩
    | _ => exact (show False from h).elim
  | none => exact (show False from h).elim
noncomputable def asSd (x : Option AO) (k : List (Str × Int) → Prop) : Prop := match x with
  | some o => (match o with
    | .sdict l => k l
    | _ => False)
  | none => False
theorem asSd_of {x : Option AO} {k : List (Str × Int) → Prop} (h : asSd x k) : ∃ l, x = some (.sdict l) ∧ k l := by
  cases x with
  | some o => cases o with
    | sdict l => exact ⟨l, rfl, h⟩
    | _ => exact (show False from h).elim
  | none => exact (show False from h).elim
noncomputable def preBinI (op : Operator) (a b : Int) (K : Int → Prop) : Prop := match op with
  | .Add => K (a + b)
  | .Sub => K (a - b)
  | .Mult => IntMulOk a b ∧ K (a * b)
  | .FloorDiv => b ≠ 0 ∧ Builtin.divisionGoesByPylong a b = false ∧ K (a.fdiv b)
  | .Mod => b ≠ 0 ∧ K (a.fmod b)
  | .Pow => 0 < b ∧ 1 < a ∧ Builtin.Int.intTooBig ((Builtin.Int.intBits a : Nat) * b) = false ∧ K (a ^ b.toNat)
  | _ => False
noncomputable def binS (op : Operator) (a : Str) (b : PV) (H : AH) (K : Kv) : Prop := match b with
  | .str b => op = .Add ∧ a.length + b.length ≤ sizeLine ∧ K (.p (.str (a ++ b))) H
  | .int b => op = .Mult ∧ MulOk a b ∧ K (.p (.str (Txt.mul a b))) H
  | _ => False
noncomputable def preBin (op : Operator) (x y : SV) (H : AH) (K : Kv) : Prop := match x with
  | .p a => (match a with
    | .int a => asInt y fun b => preBinI op a b fun r => K (.p (.int r)) H
    | .str a => asPV y fun b => binS op a b H K
    | _ => False)
  | .ref m => (match y with
    | .ref n => op = .Add ∧ asList H[m]? fun a => asList H[n]? fun b => a.length + b.length ≤ sizeLine ∧ K (.ref H.length) (H ++ [.list (a ++ b)])
    | .p b => (match b with
      | .int k => op = .Mult ∧ asList H[m]? fun a => a ≠ [] ∧ 0 ≤ k ∧ k < 2 ^ 63 ∧ a.length * k.toNat ≤ 2 ^ 24 ∧ K (.ref H.length) (H ++ [.list (List.replicate k.toNat a).flatten])
      | _ => False)
    | _ => False)
  | _ => False

section
variable {prog : Program} {w : World} {h₀ : Heap} {A : Around} {E : Value → Shared → Prop} {s : Shared} {g : Sg} {K : Kv} {Q : Value → Shared → Prop}
theorem Gives.tok (G : Gives prog w h₀ s g K Q) (S : St prog w h₀ s g) {v : Value} {sv : SV} (k : Nat) (c : SC s.heap g.r g.H.length v sv) (h : K sv g.H) : Q v { s with toks := k } := G v sv _ g (Po.tok S k) c h
theorem Gives.same (G : Gives prog w h₀ s g K Q) (S : St prog w h₀ s g) {v : Value} {sv : SV} (c : SC s.heap g.r g.H.length v sv) (h : K sv g.H) : Q v s := G v sv _ g (Po.refl S _) c h
theorem Po.newList {h' : Heap} {tk : Nat} (S : St prog w h₀ s g) (k : ∀ b o, s.heap.get? b = some o → h'.get? b = some o) (hs : s.heap.objs.size < h'.objs.size) {vs : Array Value} {n : Nat}
    (e : h'.get? s.heap.objs.size = some (listOf vs n)) {l : List PV} (c : PCs s.heap vs.toList l) :
    Po prog w h₀ s g { s with heap := h', toks := tk } (g.add s.heap.objs.size (.list l)) NoX :=
  Po.add S k (Nat.le_of_lt hs) (Nat.le_refl _) ⟨vs, n, e, c.mono fun b o x _z => k b o x⟩ (by intro e; cases e)
theorem Sg.add_ref (g : Sg) (a : Addr) (o : AO) (h : Heap) : SC h (g.add a o).r (g.add a o).H.length (.ref a) (.ref g.H.length) := by
  have e : SC h (g.add a o).r (g.add a o).H.length (.ref ((g.add a o).r g.H.length)) (.ref g.H.length) := .ref (by show g.H.length < (g.H ++ [o]).length; simp)
  rwa [show (g.add a o).r g.H.length = a from if_pos rfl] at e
theorem Gives.newList (G : Gives prog w h₀ s g K Q) (S : St prog w h₀ s g) {h' : Heap} {tk : Nat} (k : ∀ b o, s.heap.get? b = some o → h'.get? b = some o) (hs : s.heap.objs.size < h'.objs.size) {vs : Array Value} {n : Nat}
    (e : h'.get? s.heap.objs.size = some (listOf vs n)) {l : List PV} (c : PCs s.heap vs.toList l) (h : K (.ref g.H.length) (g.H ++ [.list l])) : Q (.ref s.heap.objs.size) { s with heap := h', toks := tk } :=
  G _ _ _ _ (Po.newList S k hs e c) (Sg.add_ref ..) h
theorem Gives.pushList (G : Gives prog w h₀ s g K Q) (S : St prog w h₀ s g) {tk : Nat} {vs : Array Value} {l : List PV} (c : PCs s.heap vs.toList l) (h : K (.ref g.H.length) (g.H ++ [.list l])) :
    Q (.ref s.heap.objs.size) { s with heap := s.heap.push { cls := .type "list", data := .seq vs }, toks := tk } :=
  G.newList S (fun _z _z e => Heap.get?_push_of_some _ e) (by rw [Heap.size_push]; exact Nat.lt_succ_self _) (n := 0) (Heap.get?_push_size _ rfl) c h

theorem binI_ok {op : Operator} {a b : Int} {t u : Tok} {T : Int → Prop} (h : preBinI op a b T) {Q : Value → Shared → Prop} (hQ : ∀ r t' k, T r → Q (.int r t') { s with toks := k }) : wpAny (model prog w) A (binaryOp op (.int a t) (.int b u)) Q E s := by
  cases op <;> simp only [preBinI] at h
  case Add => exact P.add_int (hQ _ _ _ h)
  case Sub => exact sub_int' (hQ _ _ _ h)
  case Mult => exact P.mul_int (hQ _ _ _ h.2) h.1
  case FloorDiv => exact AutoIntOps.floordiv_1 (by simpa using h.1) (by simp [h.2.1]) (hQ _ _ _ h.2.2)
  case Mod => exact mod_int' h.1 (hQ _ _ _ h.2)
  case Pow =>
    obtain ⟨h1, h2, h3, h4⟩ := h
    refine AutoIntOps.pow_4 (by omega) (by simp; omega) (by simp; omega) (by simp; omega) (by simp [h3]) (hQ _ _ _ h4)
theorem mulList_ok {l : Addr} {items : Array Value} {k : Nat} {x : Int} {u : Tok} {Q : Value → Shared → Prop} (hl : s.heap.get? l = some (W.listOf items k)) (hlo : 0 ≤ x) (hhi : x < 2 ^ 63) (hsz : items.size * x.toNat ≤ 2 ^ 24)
    (h : Q (.ref s.heap.objs.size) { s with heap := s.heap.push { cls := .type "list", data := .seq (List.foldl (fun x1 x2 => x1 ++ x2) #[] (List.replicate (if items.isEmpty = true then 0 else x.toNat) items)) } }) :
    wpAny (model prog w) A (binaryOp .Mult (.ref l) (.int x u)) Q E s := by
  refine wpAny_binaryOp_repeat_ref (T := "list") (U := "int") (by decide) ⟨_, hl, rfl⟩ (fun s' => typeIs_int s' x u) noFill_list_mul F.fills_int_mul F.slot_int_rmul repeat_list F.slot_int_index.lookup
    (call_meets F.slot_int_rmul (typeIs_int s x u) F.entry_int_rmul (F.args_int_rmul_2 _ _) (int___rmul___int_list x u l items k) ⟨hl, rfl, ⟨_, hl, rfl⟩, ?_⟩)
  refine call_meets F.slot_list_mul ⟨_, hl, rfl⟩ F.entry_list_mul (F.args_list_mul_2 _ _) (AutoListH.list___mul___list_int_3 l items k x u ?_ (by omega) ?_) ⟨hl, h⟩
  · simp [Builtin.List.listFitsIndex]; omega
  · simp [Builtin.List.listTooLong, sizeLine]; omega
end
end Mine

namespace Mine
open PySem PySem.W PySem.Calls PyProof.Rows

theorem look_sm (P : Params) : (K P).lookup sysModules = some (boot_o_1 P) := by kernel_rfl
theorem Bs.smNe {w : World} {h₀ : Heap} (B : Bs w h₀) {a : Addr} (h : h₀.get? a = none) : (a == sysModules) = false := by
  refine beq_eq_false_iff_ne.mpr fun q => ?_
  have := B.k sysModules _ (look_sm _)
  rw [← q, h] at this
  cases this

noncomputable def hasK {α : Type} [DecidableEq α] (k : α) (l : List (α × Int)) : Bool := l.any fun e => decide (e.1 = k)
noncomputable def getK {α : Type} [DecidableEq α] (k : α) : List (α × Int) → Option Int
  | [] => none
  | (y, v) :: r => if y = k then some v else getK k r
theorem getK_e1 {α : Type} [DecidableEq α] {k : α} : getK k [] = none := rfl
theorem getK_e2 {α : Type} [DecidableEq α] {k y : α} {v : Int} {r : List (α × Int)} : getK k ((y, v) :: r) = if y = k then some v else getK k r := rfl
noncomputable def setK {α : Type} [DecidableEq α] (k : α) (v : Int) : List (α × Int) → List (α × Int)
  | [] => [(k, v)]
  | (y, u) :: r => if y = k then (y, v) :: r else (y, u) :: setK k v r
theorem setK_e1 {α : Type} [DecidableEq α] {k : α} {v : Int} : setK k v [] = [(k, v)] := rfl
theorem setK_e2 {α : Type} [DecidableEq α] {k y : α} {v u : Int} {r : List (α × Int)} : setK k v ((y, u) :: r) = if y = k then (y, v) :: r else (y, u) :: setK k v r := rfl
noncomputable def SV.none? : SV → Option Bool
  | .p .none => some true
  | .p _ => some false
  | .ref _ => some false
  | .tup _ => some false
  | .rng _ _ => some false
  | .raw _ => none
noncomputable def genEq (a b : PV) (K : Bool → Prop) : Prop := eqOk a = true ∧ eqOk b = true ∧ K (PyData.eqv a.py b.py)
noncomputable def eqPP (a b : PV) (K : Bool → Prop) : Prop := match a with
  | .int i => (match b with
    | .int j => K (decide (i = j))
    | b => genEq (.int i) b K)
  | .str x => (match b with
    | .str y => K (decide (x = y))
    | b => genEq (.str x) b K)
  | a => genEq a b K
noncomputable def preEq (x y : SV) (H : AH) (K : Bool → Prop) : Prop := match x with
  | .p a => asPV y fun b => eqPP a b K
  | .ref m => (match y with
    | .ref n => asList H[m]? fun a => asList H[n]? fun b => eqsOk a = true ∧ eqsOk b = true ∧ K (PyData.eqvAll (PV.pys a) (PV.pys b))
    | _ => False)
  | _ => False
noncomputable def preOrd (f : Int → Int → Bool) (x y : SV) (K : Bool → Prop) : Prop := asInt x fun a => asInt y fun b => K (f a b)
noncomputable def preIs (x y : SV) (K : Bool → Prop) : Prop := asPV y fun y => match y with
  | .none => asSome x.none? K
  | _ => False
noncomputable def asId (x : Option AO) (k : List (Int × Int) → Prop) : Prop := match x with
  | some o => (match o with
    | .idict l => k l
    | _ => False)
  | none => False
theorem asId_of {x : Option AO} {k : List (Int × Int) → Prop} (h : asId x k) : ∃ l, x = some (.idict l) ∧ k l := by
  cases x with
  | some o => cases o with
    | idict l => exact ⟨l, rfl, h⟩
    | _ => exact (show False from h).elim
  | none => exact (show False from h).elim
noncomputable def inTup (a : PV) (l : List PV) (K : Bool → Prop) : Prop := a.plain = true ∧ PV.plains l = true ∧ PyData.canLayAll0 (PV.pys l) = true ∧ a.py.canLay0 = true ∧ PyData.depthAll (PV.pys l) ≤ 50 ∧ K ((PV.pys l).any fun y => PyData.eqv y a.py)
noncomputable def preIn (x y : SV) (H : AH) (K : Bool → Prop) : Prop := match y with
  | .ref n => asInt x fun k => asId H[n]? fun l => K (hasK k l)
  | .p b => (match b with
    | .tup l => asPV x fun a => inTup a l K
    | .str b => asStr x fun a => K (!(Builtin.Str.occurrences b a 0 b.length 1).isEmpty)
    | _ => False)
  | _ => False
noncomputable def preCmp (op : CmpOp) (x y : SV) (H : AH) (K : Bool → Prop) : Prop := match op with
  | .Eq => preEq x y H K
  | .NotEq => preEq x y H fun b => K (!b)
  | .Lt => preOrd (fun a b => decide (a < b)) x y K
  | .LtE => preOrd (fun a b => decide (a ≤ b)) x y K
  | .Gt => preOrd (fun a b => decide (b < a)) x y K
  | .GtE => preOrd (fun a b => decide (b ≤ a)) x y K
  | .Is => preIs x y K
  | .IsNot => preIs x y fun b => K (!b)
  | .In => preIn x y H K
  | .NotIn => False

set_option tactic.hygienic true in
theorem IntVals.find {α : Type} [DecidableEq α] {k : α} {kvs : List (α × Value)} {l : List (α × Int)} (h : IntVals kvs l) : match getK k l with
    | some i => ∃ t, valueAt kvs k = some (.int i t)
    | none => valueAt kvs k = none := by
  induction h with
  | nil => rfl
  | cons _ ih =>
    rename_i k' i t kvs l _
    rw [getK_e2]
    by_cases q : k' = k
    · rw [if_pos q]
      exact ⟨t, by simp [valueAt, q]⟩
    · rw [if_neg q]
      have e : valueAt ((k', Value.int i t) :: kvs) k = valueAt kvs k := by simp [valueAt, q]
      rw [e]; exact ih
theorem hasK_getK {α : Type} [DecidableEq α] {k : α} : ∀ {l : List (α × Int)}, hasK k l = (getK k l).isSome
  | [] => rfl
  | (y, v) :: r => by
    have ih := hasK_getK (k := k) (l := r)
    rw [getK_e2]
    unfold hasK at ih ⊢
    by_cases q : y = k
    · simp [q]
    · simp [q, ih]
theorem IntVals.has {α : Type} [DecidableEq α] {k : α} {kvs : List (α × Value)} {l : List (α × Int)} (h : IntVals kvs l) : (valueAt kvs k).isSome = hasK k l := by
  rw [hasK_getK]
  have := h.find (k := k)
  revert this
  cases getK k l with
  | none => intro e; rw [e]; rfl
  | some i => rintro ⟨t, e⟩; rw [e]; rfl
theorem hasK_cons {α : Type} [DecidableEq α] {k y : α} {v : Int} {l : List (α × Int)} : hasK k ((y, v) :: l) = (decide (y = k) || hasK k l) := rfl
theorem IntVals.anyK {α : Type} [DecidableEq α] {k : α} {kvs : List (α × Value)} {l : List (α × Int)} (h : IntVals kvs l) : (kvs.any fun kv => decide (kv.1 = k)) = hasK k l := by
  induction h with
  | nil => rfl
  | cons _ ih => simp only [List.any_cons, hasK_cons, ih]
theorem IntVals.snoc {α : Type} {k : α} {i : Int} {t : Tok} {kvs : List (α × Value)} {l : List (α × Int)} (h : IntVals kvs l) : IntVals (kvs ++ [(k, .int i t)]) (l ++ [(k, i)]) := by
  induction h with
  | nil => exact .cons .nil
  | cons _ ih => exact .cons ih
theorem setK_new {α : Type} [DecidableEq α] {k : α} {v : Int} : ∀ {l : List (α × Int)}, hasK k l = false → setK k v l = l ++ [(k, v)]
  | [], _ => rfl
  | (y, u) :: r, e => by
    rw [hasK_cons] at e
    have e := Bool.or_eq_false_iff.mp e
    rw [setK_e2]
    rw [if_neg (by simpa using e.1), setK_new e.2]; rfl
theorem IntVals.nodup_keys {α : Type} {kvs : List (α × Value)} {l : List (α × Int)} (h : IntVals kvs l) : kvs.map (·.1) = l.map (·.1) := by
  induction h with
  | nil => rfl
  | cons _ ih => simp [ih]
set_option tactic.hygienic true in
theorem IntVals.setOld {α : Type} [DecidableEq α] {k : α} {i : Int} {t : Tok} {kvs : List (α × Value)} {l : List (α × Int)} (h : IntVals kvs l) : hasK k l = true → (kvs.map (·.1)).Nodup → IntVals (kvs.map fun kv => if kv.1 = k then (kv.1, .int i t) else kv) (setK k i l) := by
  induction h with
  | nil => intro e _; cases e
  | cons q ih =>
    rename_i y j u kvs l
    intro e nd
    simp only [List.map_cons, List.nodup_cons] at nd
    rw [setK_e2]
    by_cases hy : y = k
    · rw [if_pos hy]
      simp only [List.map_cons, if_pos hy]
      refine .cons ?_
      have : (kvs.map fun kv => if kv.1 = k then (kv.1, Value.int i t) else kv) = kvs := by
        have hk : ∀ kv ∈ kvs, kv.1 ≠ k := fun kv hm q => nd.1 (hy ▸ q ▸ List.mem_map_of_mem hm)
        calc _ = kvs.map id := List.map_congr_left fun kv hm => if_neg (hk kv hm)
          _ = kvs := List.map_id _
      rw [this]; exact q
    · rw [if_neg hy]
      simp only [List.map_cons, if_neg hy]
      rw [hasK_cons] at e
      exact .cons (ih (by simpa [hy] using e) nd.2)
theorem IntVals.set {α : Type} [DecidableEq α] {k : α} {i : Int} {t : Tok} {kvs : List (α × Value)} {l : List (α × Int)} (h : IntVals kvs l) (nd : (kvs.map (·.1)).Nodup) : IntVals (stored kvs k (.int i t)) (setK k i l) := by
  unfold stored
  rw [h.anyK]
  cases e : hasK k l with
  | true => rw [if_pos rfl]; exact h.setOld e nd
  | false => rw [if_neg (by simp), setK_new e]; exact h.snoc
theorem IntVals.length {α : Type} {kvs : List (α × Value)} {l : List (α × Int)} (h : IntVals kvs l) : kvs.length = l.length := by
  induction h with
  | nil => rfl
  | cons _ ih => simp [ih]

theorem foldl_flat {α : Type} : ∀ (k : Nat) (x acc : Array α), ((List.replicate k x).foldl (fun a b => a ++ b) acc).toList = acc.toList ++ (List.replicate k x.toList).flatten
  | 0, x, acc => by simp
  | k + 1, x, acc => by
    rw [List.replicate_succ, List.foldl_cons, foldl_flat k x, List.replicate_succ, List.flatten_cons]
    simp
theorem PCs.flat {h : Heap} {vs : List Value} {l : List PV} (q : PCs h vs l) : ∀ k : Nat, PCs h (List.replicate k vs).flatten (List.replicate k l).flatten
  | 0 => .nil
  | k + 1 => by
    rw [List.replicate_succ, List.replicate_succ, List.flatten_cons, List.flatten_cons]
    exact q.append (PCs.flat q k)
section
variable {prog : Program} {w : World} {h₀ : Heap} {A : Around} {E : Value → Shared → Prop} {s : Shared} {g : Sg} {K : Kv} {Q : Value → Shared → Prop} {n : Nat}
theorem OC.at_list {m : Nat} {l : List PV} (S : St prog w h₀ s g) (e : g.H[m]? = some (.list l)) : ∃ vs k, s.heap.get? (g.r m) = some (W.listOf vs k) ∧ PCs s.heap vs.toList l := S.obj m _ e
theorem IsList.of {h : Heap} {a : Addr} {vs : Array Value} {k : Nat} (e : h.get? a = some (W.listOf vs k)) : h.IsList a vs := ⟨_, e, rfl, k, rfl⟩
theorem str_eq_list {x y : Str} : (x.cps.toList == y.cps.toList) = decide (x = y) := by
  by_cases h : x = y
  · subst h; simp
  · rw [decide_eq_false h]
    refine beq_eq_false_iff_ne.mpr fun q => h ?_
    cases x; cases y
    simp only [Str.mk.injEq]
    exact Array.toList_inj.mp q
theorem bin_ok {op : Operator} {x y : SV} {a b : Value} (h : preBin op x y g.H K) (S : St prog w h₀ s g) (ca : SC s.heap g.r g.H.length a x) (cb : SC s.heap g.r g.H.length b y) (G : Gives prog w h₀ s g K Q) :
    wpAny (model prog w) A (binaryOp op a b) Q E s := by
  cases x with
  | p x => cases x with
    | int i =>
      obtain ⟨j, rfl, hh⟩ := asInt_of h
      obtain ⟨t, rfl⟩ := ca.int_of
      obtain ⟨u, rfl⟩ := cb.int_of
      exact binI_ok hh fun r t' k hr => G.tok S k (.p (.int _ _)) hr
    | str i =>
      obtain ⟨pb, rfl, hh⟩ := asPV_of h
      obtain ⟨t, rfl⟩ := ca.str_of
      cases pb with
      | str j =>
        obtain ⟨u, rfl⟩ := cb.str_of
        obtain ⟨rfl, h1, h2⟩ : op = .Add ∧ _ ∧ _ := hh
        exact SB.add (fun t' k => G.tok S k (.p (.str _ _)) h2) h1
      | int j =>
        obtain ⟨u, rfl⟩ := cb.int_of
        obtain ⟨rfl, h1, h2⟩ : op = .Mult ∧ _ ∧ _ := hh
        exact SB.mul h1 (fun t' k => G.tok S k (.p (.str _ _)) h2)
      | _ => exact (show False from hh).elim
    | _ => exact (show False from h).elim
  | ref m =>
    obtain ⟨hm, rfl⟩ := ca.ref_of
    cases y with
    | ref n =>
      obtain ⟨rfl, hh⟩ : op = .Add ∧ _ := h
      obtain ⟨la, e1, hh⟩ := asList_of hh
      obtain ⟨lb, e2, h1, h2⟩ := asList_of hh
      obtain ⟨hn, rfl⟩ := cb.ref_of
      obtain ⟨vs, k, o1, p1⟩ := OC.at_list S e1
      obtain ⟨ws, j, o2, p2⟩ := OC.at_list S e2
      have l1 := p1.length
      have l2 := p2.length
      rw [Array.length_toList] at l1 l2
      refine P.add_list o1 o2 ?_ (by rw [l1, l2]; exact h1)
      exact G.pushList S (tk := s.toks) (by rw [Array.toList_append]; exact p1.append p2) h2
    | p y => cases y with
      | int k =>
        obtain ⟨rfl, hh⟩ : op = .Mult ∧ _ := h
        obtain ⟨la, e1, hne, h0, h63, hz, hh⟩ := asList_of hh
        obtain ⟨u, rfl⟩ := cb.int_of
        obtain ⟨vs, j, o1, p1⟩ := OC.at_list S e1
        have l1 := p1.length
        rw [Array.length_toList] at l1
        have hv : vs.isEmpty = false := by
          cases q : vs.isEmpty with
          | false => rfl
          | true =>
            exfalso
            rw [Array.isEmpty_iff_size_eq_zero] at q
            rw [q] at l1
            exact hne (List.eq_nil_of_length_eq_zero l1.symm)
        refine mulList_ok o1 h0 h63 (by rw [l1]; exact hz) (G.pushList S (tk := s.toks) ?_ hh)
        rw [hv, foldl_flat]
        simpa using p1.flat k.toNat
      | _ => exact (show False from h).elim
    | _ => exact (show False from h).elim
  | _ => exact (show False from h).elim
theorem eqPP_of {pa pb : PV} {P : Bool → Prop} (h : eqPP pa pb P) : (∃ i j, pa = .int i ∧ pb = .int j ∧ P (decide (i = j))) ∨ (∃ i j, pa = .str i ∧ pb = .str j ∧ P (decide (i = j))) ∨ genEq pa pb P := by
  cases pa with
  | int i => cases pb with
    | int j => exact .inl ⟨i, j, rfl, rfl, h⟩
    | _ => exact .inr (.inr h)
  | str i => cases pb with
    | str j => exact .inr (.inl ⟨i, j, rfl, rfl, h⟩)
    | _ => exact .inr (.inr h)
  | _ => exact .inr (.inr h)
theorem eq_parts {x y : SV} {a b : Value} {P : Bool → Prop} (h : preEq x y g.H P) (S : St prog w h₀ s g) (ca : SC s.heap g.r g.H.length a x) (cb : SC s.heap g.r g.H.length b y) :
    (∃ i t j u, a = .int i t ∧ b = .int j u ∧ P (decide (i = j))) ∨ (∃ i t j u, a = .str i t ∧ b = .str j u ∧ P (decide (i = j))) ∨
    ∃ da db as bs, Reads s.heap a da as ∧ Reads s.heap b db bs ∧ SeqAt.shaped da = true ∧ SeqAt.shaped db = true ∧ P (PyData.eqv da db) := by
  cases x with
  | p x =>
    obtain ⟨pb, rfl, hh⟩ := asPV_of h
    rcases eqPP_of hh with ⟨i, j, rfl, rfl, h⟩ | ⟨i, j, rfl, rfl, h⟩ | ⟨h1, h2, h⟩
    · obtain ⟨t, rfl⟩ := ca.int_of
      obtain ⟨u, rfl⟩ := cb.int_of
      exact .inl ⟨i, t, j, u, rfl, rfl, h⟩
    · obtain ⟨t, rfl⟩ := ca.str_of
      obtain ⟨u, rfl⟩ := cb.str_of
      exact .inr (.inl ⟨i, t, j, u, rfl, rfl, h⟩)
    · have h1 := Bool.and_eq_true_iff.mp h1
      have h2 := Bool.and_eq_true_iff.mp h2
      exact .inr (.inr ⟨_, _, _, _, ca.pc_of.reads h1.1, cb.pc_of.reads h2.1, h1.2, h2.2, h⟩)
  | ref m => cases y with
    | ref n =>
      obtain ⟨la, e1, hh⟩ := asList_of h
      obtain ⟨lb, e2, h1, h2, hh⟩ := asList_of hh
      obtain ⟨_, rfl⟩ := ca.ref_of
      obtain ⟨_, rfl⟩ := cb.ref_of
      have h1 := Bool.and_eq_true_iff.mp h1
      have h2 := Bool.and_eq_true_iff.mp h2
      obtain ⟨vs, k, o1, p1⟩ := OC.at_list S e1
      obtain ⟨ws, j, o2, p2⟩ := OC.at_list S e2
      exact .inr (.inr ⟨_, _, _, _, reads_list_at o1 rfl rfl (p1.reads h1.1), reads_list_at o2 rfl rfl (p2.reads h2.1), h1.2, h2.2, hh⟩)
    | _ => exact (show False from h).elim
  | _ => exact (show False from h).elim
theorem eq_ok (R : Rm A n) {x y : SV} {a b : Value} {P : Bool → Prop} (h : preEq x y g.H P) (S : St prog w h₀ s g) (ca : SC s.heap g.r g.H.length a x) (cb : SC s.heap g.r g.H.length b y) (hQ : ∀ r, P r → Q (.bool r) s) :
    wpAny (model prog w) A (compareOp .Eq a b) Q E s := by
  rcases eq_parts h S ca cb with ⟨i, t, j, u, rfl, rfl, h⟩ | ⟨i, t, j, u, rfl, rfl, h⟩ | ⟨da, db, as, bs, r1, r2, s1, s2, h⟩
  · exact PySem.P.eq_int (by rw [show (_ == _) = _ from (Bool.beq_eq_decide_eq _ _)]; exact hQ _ h)
  · exact PySem.P.eq_str (by rw [str_eq_list]; exact hQ _ h)
  · exact eq_dataH r1 r2 s1 s2 R.eq (hQ _ h)
theorem ne_ok (R : Rm A n) {x y : SV} {a b : Value} {P : Bool → Prop} (h : preEq x y g.H P) (S : St prog w h₀ s g) (ca : SC s.heap g.r g.H.length a x) (cb : SC s.heap g.r g.H.length b y) (hQ : ∀ r, P r → Q (.bool (!r)) s) :
    wpAny (model prog w) A (compareOp .NotEq a b) Q E s := by
  rcases eq_parts h S ca cb with ⟨i, t, j, u, rfl, rfl, h⟩ | ⟨i, t, j, u, rfl, rfl, h⟩ | ⟨da, db, as, bs, r1, r2, s1, s2, h⟩
  · exact PySem.P.ne_int (by rw [bne, show (_ == _) = _ from (Bool.beq_eq_decide_eq _ _)]; exact hQ _ h)
  · exact PySem.P.ne_str (by rw [bne, str_eq_list]; exact hQ _ h)
  · exact ne_dataH r1 r2 s1 s2 R.eq (hQ _ h)
theorem SC.none? {h : Heap} {r : Nat → Addr} {N : Nat} {v : Value} {x : SV} (c : SC h r N v x) {b : Bool} (e : x.none? = some b) : (v == Value.none) = b := by
  have nn : ∀ {v : Value}, v ≠ .none → some false = some b → (v == Value.none) = b := fun n e => by
    cases e; exact beq_eq_false_iff_ne.mpr n
  cases c with
  | p c => cases c with
    | none => cases e; rfl
    | _ => exact nn nofun e
  | raw v => cases e
  | _ => exact nn nofun e
theorem Rm.tup {A : Around} {n d e : Nat} (R : Rm A n) (h : d ≤ 50) : A.units + 1 + min d e < cLine := by
  have := R.un
  omega
theorem ord_any {f : Int → Int → Bool} {x y : SV} {a b : Value} {P : Bool → Prop} (h : preOrd f x y P) (ca : SC s.heap g.r g.H.length a x) (cb : SC s.heap g.r g.H.length b y) : ∃ i t j u, a = .int i t ∧ b = .int j u ∧ P (f i j) := by
  obtain ⟨i, rfl, hh⟩ := asInt_of h
  obtain ⟨j, rfl, hh⟩ := asInt_of hh
  obtain ⟨t, rfl⟩ := ca.int_of
  obtain ⟨u, rfl⟩ := cb.int_of
  exact ⟨i, t, j, u, rfl, rfl, hh⟩
theorem is_any {x y : SV} {a b : Value} {P : Bool → Prop} (h : preIs x y P) (ca : SC s.heap g.r g.H.length a x) (cb : SC s.heap g.r g.H.length b y) : b = .none ∧ P (a == Value.none) := by
  obtain ⟨y, rfl, hh⟩ := asPV_of h
  cases y with
  | none =>
    obtain ⟨r, e, h⟩ := asSome_of hh
    rw [ca.none? e]; exact ⟨cb.none_of, h⟩
  | _ => exact (show False from hh).elim
theorem in_ok (B : Bs w h₀) (R : Rm A n) {x y : SV} {a b : Value} {P : Bool → Prop} (h : preIn x y g.H P) (S : St prog w h₀ s g) (ca : SC s.heap g.r g.H.length a x) (cb : SC s.heap g.r g.H.length b y)
    (hQ : ∀ r k, P r → Q (.bool r) { s with toks := k }) : wpAny (model prog w) A (compareOp .In a b) Q E s := by
  cases y with
  | ref n' =>
    obtain ⟨k', rfl, hh⟩ := asInt_of h
    obtain ⟨l, e, hh⟩ := asId_of hh
    obtain ⟨hm, rfl⟩ := cb.ref_of
    obtain ⟨t, rfl⟩ := ca.int_of
    obtain ⟨kvs, hd, hv⟩ := S.obj _ _ e
    refine wpAny_in_of (knd := intKind prog w) (k := k') (by simp [intKind, Value.isInt]) (B.smNe (S.new _ hm)) hd.mapOf ?_
    rw [hv.has]
    exact hQ _ _ hh
  | p y => cases y with
    | tup l =>
      obtain ⟨z, rfl, h1, h2, h3, h4, h5, hh⟩ := asPV_of h
      obtain ⟨_, _, _, _, rfl, e, c, d, q⟩ := cb.tup_of
      exact SeqAt.in_tuple_reads (reads_tuple_at e c d (q.reads h2)) (ca.pc_of.reads h1) h3 h4 (R.tup h5) (hQ _ s.toks hh)
    | str z =>
      obtain ⟨z', rfl, hh⟩ := asStr_of h
      obtain ⟨t, rfl⟩ := ca.str_of
      obtain ⟨u, rfl⟩ := cb.str_of
      exact PySem.P.in_str (hQ _ s.toks hh)
    | _ => exact (show False from h).elim
  | _ => exact (show False from h).elim
theorem cmp_ok (B : Bs w h₀) (R : Rm A n) {op : CmpOp} {x y : SV} {a b : Value} {P : Bool → Prop} (h : preCmp op x y g.H P) (S : St prog w h₀ s g) (ca : SC s.heap g.r g.H.length a x) (cb : SC s.heap g.r g.H.length b y)
    (hQ : ∀ r k, P r → Q (.bool r) { s with toks := k }) : wpAny (model prog w) A (compareOp op a b) Q E s := by
  cases op with
  | Eq => exact eq_ok R h S ca cb fun r hr => hQ r s.toks hr
  | NotEq => exact ne_ok R h S ca cb fun r hr => hQ _ s.toks hr
  | Lt => obtain ⟨i, t, j, u, rfl, rfl, h⟩ := ord_any h ca cb; exact PySem.P.lt_int (hQ _ s.toks h)
  | LtE => obtain ⟨i, t, j, u, rfl, rfl, h⟩ := ord_any h ca cb; exact PySem.P.le_int (hQ _ s.toks h)
  | Gt => obtain ⟨i, t, j, u, rfl, rfl, h⟩ := ord_any h ca cb; exact PySem.P.gt_int (hQ _ s.toks h)
  | GtE => obtain ⟨i, t, j, u, rfl, rfl, h⟩ := ord_any h ca cb; exact PySem.P.ge_int (hQ _ s.toks h)
  | Is => obtain ⟨rfl, h⟩ := is_any h ca cb; exact is_none_gen (hQ _ s.toks h)
  | IsNot => obtain ⟨rfl, h⟩ := is_any h ca cb; exact isnot_none_gen (hQ _ s.toks h)
  | In => exact in_ok B R h S ca cb hQ
  | NotIn => exact (show False from h).elim
end
end Mine

namespace Mine
open PySem PySem.W PySem.Calls PyProof.Rows

noncomputable def ixL (k : Int) (l : List PV) : Option PV := match seqIndex? k l.length with
  | some j => l[j]?
  | none => none
noncomputable def inR (k : Int) : Prop := -2 ^ 63 ≤ k ∧ k < 2 ^ 63
noncomputable def getO (k : Int) (o : Option AO) (H : AH) (K : Kv) : Prop := match o with
  | some o => (match o with
    | .list l => asSome (ixL k l) fun v => inR k ∧ K (.p v) H
    | .idict l => asSome (getK k l) fun v => K (.p (.int v)) H
    | _ => False)
  | none => False
noncomputable def getP (k : Int) (x : PV) (H : AH) (K : Kv) : Prop := match x with
  | .tup l => asSome (ixL k l) fun v => inR k ∧ K (.p v) H
  | .str x => fitsSsize k = true ∧ (Txt.charAt x k).isSome = true ∧ K (.p (.str (Txt.item x k))) H
  | .bytes b => b.size ≤ 1099511627776 ∧ 0 ≤ k ∧ k < b.size ∧ K (.p (.int (b.toList.getD k.toNat 0).toNat)) H
  | _ => False
noncomputable def preGet (x i : SV) (H : AH) (K : Kv) : Prop := match x with
  | .ref m => asInt i fun k => getO k H[m]? H K
  | .p x => asInt i fun k => getP k x H K
  | _ => False
noncomputable def setI (k : Int) (m : Nat) (o : Option AO) (v : SV) (H : AH) (K : AH → Prop) : Prop := match o with
  | some o => (match o with
    | .list l => asPV v fun y => 0 ≤ k ∧ k < 2 ^ 63 ∧ k < l.length ∧ K (H.set m (.list (l.set k.toNat y)))
    | .idict l => asInt v fun y => l.length ≤ sizeLine ∧ K (H.set m (.idict (setK k y l)))
    | _ => False)
  | none => False
noncomputable def preSet (x i v : SV) (H : AH) (K : AH → Prop) : Prop := match x with
  | .ref m => asPV i fun i => (match i with
    | .int k => setI k m H[m]? v H K
    | .str k => asSd H[m]? fun l => asInt v fun y => l.length ≤ sizeLine ∧ K (H.set m (.sdict (setK k y l)))
    | _ => False)
  | _ => False
section
variable {prog : Program} {w : World} {h₀ : Heap} {A : Around} {E : Value → Shared → Prop} {s : Shared} {g : Sg} {K : Kv} {Q : Value → Shared → Prop} {n : Nat}
set_option tactic.hygienic true in
theorem seqIndex_neg {k : Int} {len j : Nat} (hk : k < 0) (e : seqIndex? k len = some j) : -(len : Int) ≤ k ∧ (k + len).toNat = j := by
  unfold seqIndex? at e
  simp only [hk, if_true] at e
  split at e
  · rename_i q
    simp only [Bool.and_eq_true, decide_eq_true_eq] at q
    have := Option.some.inj e
    omega
  · cases e
theorem seqIndex_pos {k : Int} {len j : Nat} (hk : ¬ k < 0) (e : seqIndex? k len = some j) : k.toNat = j := by
  unfold seqIndex? at e
  simp only [hk, if_false] at e
  split at e
  · exact Option.some.inj e
  · cases e
set_option tactic.hygienic true in
theorem ixL_at {vs : Array Value} {l : List PV} {h : Heap} (p : PCs h vs.toList l) {k : Int} {x : PV} (e : ixL k l = some x) : ∃ j v, seqIndex? k vs.size = some j ∧ vs[j]? = some v ∧ PC h v x := by
  unfold ixL at e
  have hl := p.length
  rw [Array.length_toList] at hl
  split at e
  · rename_i j q
    obtain ⟨v, h1, h2⟩ := p.get e
    exact ⟨j, v, by rw [hl]; exact q, by rw [← Array.getElem?_toList]; exact h1, h2⟩
  · cases e
set_option tactic.hygienic true in
theorem get_ok {x i : SV} {a b : Value} (h : preGet x i g.H K) (S : St prog w h₀ s g) (ca : SC s.heap g.r g.H.length a x) (cb : SC s.heap g.r g.H.length b i) (G : Gives prog w h₀ s g K Q) : wpAny (model prog w) A (getItem a b) Q E s := by
  cases ca with
  | ref hm =>
    rename_i m
    obtain ⟨k, rfl, hh⟩ := asInt_of h
    have h := hh
    clear hh
    obtain ⟨t, rfl⟩ := cb.int_of
    have h : getO k g.H[m]? g.H K := h
    cases e : g.H[m]? with
    | none => rw [e] at h; exact (show False from h).elim
    | some o => rw [e] at h; cases o with
      | list l =>
        obtain ⟨v, ev, h⟩ := asSome_of h
        obtain ⟨vs, c, o1, p1⟩ := OC.at_list S e
        obtain ⟨j, y, h1, h2, h3⟩ := ixL_at p1 ev
        by_cases hk : k < 0
        · obtain ⟨q1, q2⟩ := seqIndex_neg hk h1
          exact wpAny_getItem_list_neg (IsList.of o1) hk q1 h.1.1 (by rw [q2]; exact h2) (G.same S (.p h3) h.2)
        · exact wpAny_getItem_list (IsList.of o1) (Int.not_lt.mp hk) h.1.2 (by rw [seqIndex_pos hk h1]; exact h2) (G.same S (.p h3) h.2)
      | idict l =>
        obtain ⟨v, ev, h⟩ := asSome_of h
        obtain ⟨kvs, hd, hv⟩ := S.obj _ _ e
        have hf := hv.find (k := k)
        rw [ev] at hf
        obtain ⟨u, hu⟩ := hf
        exact wpAny_getItem_of (knd := intKind prog w) (k := k) (by simp [intKind, Value.isInt]) hd.mapOf hu (G.tok S _ (.p (.int _ _)) h)
      | _ => exact (show False from h).elim
  | p ca =>
    obtain ⟨k, rfl, hh⟩ := asInt_of h
    have h := hh
    clear hh
    obtain ⟨u, rfl⟩ := cb.int_of
    cases ca with
    | tup e c d q =>
      obtain ⟨v, ev, h⟩ := asSome_of h
      obtain ⟨j, y, h1, h2, h3⟩ := ixL_at q ev
      exact getItem_tuple ⟨_, e, c, _, d⟩ h.1.1 h.1.2 h1 h2 (G.same S (.p h3) h.2)
    | str _ t => exact SB.getItem h.1 h.2.1 (G.tok S _ (.p (.str _ _)) h.2.2)
    | bytes b' t =>
      obtain ⟨h1, h2, h3, h⟩ := h
      have e : b' = b'.toList.toArray := by simp
      rw [e]
      exact getItem_bytes (by simpa using h1) h2 (by simpa using h3) (G.tok S _ (.p (.int _ _)) (by simpa using h))
    | _ => exact (show False from h).elim
  | _ => exact (show False from h).elim
theorem Po.setList {S' : St prog w h₀ s g} {m : Nat} {l : List PV} (e : g.H[m]? = some (.list l)) {f : Obj → Obj} {vs : Array Value} {c tk : Nat} (o' : (s.heap.update (g.r m) f).get? (g.r m) = some (W.listOf vs c)) {l' : List PV} (p : PCs (s.heap.update (g.r m) f) vs.toList l') :
    Po prog w h₀ s g { s with heap := s.heap.update (g.r m) f, toks := tk } ⟨g.r, g.H.set m (.list l')⟩ NoX :=
  Po.upd S' e (by intro q; cases q) (by intro q; cases q) (Heap.SameBut.update ..) ⟨vs, c, o', p⟩
theorem St.tkUpd (S : St prog w h₀ s g) {m : Nat} {o : AO} (e : g.H[m]? = some o) (ho : o ≠ .hid) (f : Obj → Obj) : TK s.heap (s.heap.update (g.r m) f) := fun b ob eb c => by
  by_cases q : b = g.r m
  · subst q
    exact absurd c ((S.obj m o e).notTup eb ho)
  · exact (Heap.get?_update_other _ _ (Ne.symm q)).trans eb
set_option tactic.hygienic true in
theorem set_ok {x i v : SV} {a b c : Value} {Kh : AH → Prop} {Q : Unit → Shared → Prop} (h : preSet x i v g.H Kh) (S : St prog w h₀ s g) (ca : SC s.heap g.r g.H.length a x) (cb : SC s.heap g.r g.H.length b i) (cc : SC s.heap g.r g.H.length c v)
    (G : ∀ s' g', Po prog w h₀ s g s' g' NoX → Kh g'.H → Q () s') : wpAny (model prog w) A (setItem a b c) Q E s := by
  cases ca with
  | ref hm =>
    rename_i m
    obtain ⟨i, rfl, hh⟩ := asPV_of h
    have h := hh
    clear hh
    cases cb with | p cb => cases cb with
      | int k t =>
        have h : setI k m g.H[m]? v g.H Kh := h
        cases e : g.H[m]? with
        | none => rw [e] at h; exact (show False from h).elim
        | some o => rw [e] at h; cases o with
          | list l =>
            obtain ⟨y, rfl, h0, h63, hl, hh⟩ := asPV_of h
            have h := hh
            clear hh
            cases cc with | p cc =>
              obtain ⟨vs, n, o1, p1⟩ := OC.at_list S e
              have l1 := p1.length
              rw [Array.length_toList] at l1
              refine ki_setAt o1 h0 h63 (by rw [l1]; exact hl) (G _ ⟨g.r, g.H.set m (.list (l.set k.toNat y))⟩ (Po.setList (S' := S) e (tk := s.toks) (PySem.IsL.update o1 _) ?_) h)
              have tk := S.tkUpd e (by intro q; cases q) (Obj.mapSeq (·.setIfInBounds k.toNat c))
              rw [Array.toList_setIfInBounds]
              exact (p1.set k.toNat cc).mono tk
          | idict l =>
            obtain ⟨y, rfl, hh⟩ := asInt_of h
            have h := hh
            clear hh
            obtain ⟨u, rfl⟩ := cc.int_of
            obtain ⟨kvs, hd, hv⟩ := S.obj _ _ e
            refine wpAny_setItem_pairs (knd := intKind prog w) (k := k) (by simp [intKind, Value.isInt]) hd (fun h' hd' sb => ?_) (by rw [hv.length]; exact h.1)
            have nd : (kvs.map (·.1)).Nodup := by obtain ⟨_, _, _, _, _, _, _, _, nd⟩ := hd; exact nd
            exact G _ ⟨g.r, g.H.set m (.idict (setK k y l))⟩ (Po.upd S e (by intro q; cases q) (by intro q; cases q) sb ⟨_, hd', hv.set nd⟩) h.2
          | _ => exact (show False from h).elim
      | str k t =>
        obtain ⟨l, e, h⟩ := asSd_of h
        obtain ⟨y, rfl, hh⟩ := asInt_of h
        have h := hh
        clear hh
        obtain ⟨u, rfl⟩ := cc.int_of
        obtain ⟨kvs, hd, hv⟩ := S.obj _ _ e
        refine wpAny_setItem_pairs (knd := strKind prog w) (k := k) (by simp [PySem.strKind, Value.isStrOf]) hd (fun h' hd' sb => ?_) (by rw [hv.length]; exact h.1)
        have nd : (kvs.map (·.1)).Nodup := by obtain ⟨_, _, _, _, _, _, _, _, nd⟩ := hd; exact nd
        exact G _ ⟨g.r, g.H.set m (.sdict (setK k y l))⟩ (Po.upd S e (by intro q; cases q) (by intro q; cases q) sb ⟨_, hd', hv.set nd⟩) h.2
      | _ => exact (show False from h).elim
  | _ => exact (show False from h).elim
end
end Mine

namespace Mine
open PySem PySem.W PySem.Calls PyProof.Rows

noncomputable def ownT : List (Addr × Str) := [(187, sn "most"), (187, sn "numbers"), (187, sn "texts"), (235, sn "rows"), (377, sn "end_line"), (377, sn "text"), (377, sn "names"), (377, sn "at"), (377, sn "codes"), (377, sn "spot"), (377, sn "state"), (377, sn "row"), (377, sn "stopped")]
noncomputable def methT : List ((Addr × Str) × Addr) := [((187, sn "find"), 163), ((187, sn "number"), 170), ((187, sn "text"), 177), ((187, sn "count"), 184), ((235, sn "category"), 225), ((235, sn "set"), 232), ((377, sn "next"), 332), ((377, sn "begin_row"), 339),
  ((377, sn "read_token"), 346), ((377, sn "looked_at"), 353), ((377, sn "step"), 360), ((377, sn "end_of_row"), 367), ((377, sn "control_word"), 374)]
noncomputable def clsT : List Addr := [187, 235, 377]
theorem ownT_ok (P : Params) : ownT.map (fun e => findIn (K P) (.ref e.1) e.2) = ownT.map fun _z => some none := by kernel_rfl
theorem ownT_set (P : Params) : ownT.map (fun e => takerIn (K P) e.1 e.2) = ownT.map fun _z => some none := by kernel_rfl
theorem methT_ok (P : Params) : methT.map (fun e => findIn (K P) (.ref e.1.1) e.1.2) = methT.map fun e => some (some (.ref e.2)) := by kernel_rfl
theorem methT_fn (P : Params) : methT.map (fun e => typeIn (K P) (.ref e.2)) = methT.map fun _z => some (.type "function") := by kernel_rfl
theorem clsT_ok (P : Params) : clsT.map (fun c => (findIn (K P) (.ref c) (sn "__getattribute__"), findIn (K P) (.ref c) (sn "__getattr__"), findIn (K P) (.ref c) (sn "__setattr__"), hasDictIn (K P) c, plainOver (K P) c)) =
    clsT.map fun _z => (some (some (.builtin "object.__getattribute__")), some none, some (some (.builtin "object.__setattr__")), true, true) := by kernel_rfl
theorem ownT_cls : ownT.all (fun e => clsT.contains e.1) = true := by decide +kernel
theorem methT_cls : methT.all (fun e => clsT.contains e.1.1) = true := by decide +kernel
noncomputable def ownOk (c : Addr) (x : Str) : Bool := ownT.contains (c, x)
noncomputable def methOf (c : Addr) (x : Str) : Option Addr := methT.lookup (c, x)
noncomputable def SV.own : SV → Bool
  | .raw _ => false
  | _ => true
theorem cls_facts {P : Params} {c : Addr} (h : c ∈ clsT) : findIn (K P) (.ref c) (sn "__getattribute__") = some (some (.builtin "object.__getattribute__")) ∧ findIn (K P) (.ref c) (sn "__getattr__") = some none ∧
    findIn (K P) (.ref c) (sn "__setattr__") = some (some (.builtin "object.__setattr__")) ∧ hasDictIn (K P) c = true ∧ plainOver (K P) c = true := by
  have := (List.map_inj_left.mp (clsT_ok P)) c h
  simpa only [Prod.mk.injEq] using this
theorem own_facts {P : Params} {c : Addr} {x : Str} (h : ownOk c x = true) : c ∈ clsT ∧ findIn (K P) (.ref c) x = some none ∧ takerIn (K P) c x = some none := by
  have m : (c, x) ∈ ownT := List.contains_iff_mem.mp h
  exact ⟨List.contains_iff_mem.mp (List.all_eq_true.mp ownT_cls _ m), (List.map_inj_left.mp (ownT_ok P)) _ m, (List.map_inj_left.mp (ownT_set P)) _ m⟩
theorem mem_of_lookup' {α β : Type} [BEq α] [LawfulBEq α] {a : α} {b : β} : ∀ {l : List (α × β)}, l.lookup a = some b → (a, b) ∈ l
  | [], e => by simp at e
  | (x, y) :: r, e => by
    rw [List.lookup_cons] at e
    by_cases q : a = x
    · subst q; simp at e; subst e; exact .head _
    · rw [beq_eq_false_iff_ne.mpr q] at e; exact .tail _ (mem_of_lookup' e)
theorem meth_facts {P : Params} {c f : Addr} {x : Str} (h : methOf c x = some f) : c ∈ clsT ∧ findIn (K P) (.ref c) x = some (some (.ref f)) ∧ typeIn (K P) (.ref f) = some (.type "function") := by
  have m := mem_of_lookup' h
  exact ⟨List.contains_iff_mem.mp (List.all_eq_true.mp methT_cls _ m), (List.map_inj_left.mp (methT_ok P)) _ m, (List.map_inj_left.mp (methT_fn P)) _ m⟩

set_option tactic.hygienic true in
theorem NsC.find {h : Heap} {r : Nat → Addr} {N : Nat} {x : Str} {es : List DictEntry} {fs : List (Str × SV)} (q : NsC h r N es fs) : match lk x fs with
    | some sv => ∃ v, PySem.W.getL x es = some (some v) ∧ SC h r N v sv
    | none => PySem.W.getL x es = some none := by
  induction q with
  | nil => rfl
  | cons c q ih =>
    rename_i y sv hs t v es fs
    rw [lk_e2]
    by_cases e : y = x
    · subst e
      rw [if_pos rfl]
      exact ⟨v, by unfold PySem.W.getL; rw [List.find?_cons_of_pos (p := fun e : DictEntry => e.key.isStr y) (a := ⟨hs, .str y t, v⟩) (beq_self_eq_true y)], c⟩
    · rw [if_neg e]
      have e1 : PySem.W.getL x (⟨hs, .str y t, v⟩ :: es) = PySem.W.getL x es := by
        unfold PySem.W.getL
        rw [List.find?_cons_of_neg (p := fun e : DictEntry => e.key.isStr x) (a := ⟨hs, .str y t, v⟩) (show ¬ (y == x) = true by rw [beq_eq_false_iff_ne.mpr e]; exact Bool.false_ne_true), List.any_cons]
        rfl
      rw [e1]; exact ih
noncomputable def putF (hs : Int) (key v : Value) : Option DictEntry → DictEntry
  | some e => { e with val := v }
  | none => ⟨hs, key, v⟩
set_option tactic.hygienic true in
theorem NsC.put {h : Heap} {r : Nat → Addr} {N : Nat} {x : Str} {sv : SV} {v key : Value} {hs : Int} {t : Tok} (c : SC h r N v sv) (hk : key = .str x t) {es : List DictEntry} {fs : List (Str × SV)} (q : NsC h r N es fs) :
    NsC h r N (nsPutIn x.cps.size x.cps.toList (putF hs key v) es).1 (Mine.put x sv fs) := by
  subst hk
  induction q with
  | nil => exact .cons c .nil
  | cons c' q ih =>
    rename_i y sv' hs' t' v' es fs
    unfold nsPutIn
    rw [put_e2]
    rw [Value.isStrByCps_eq]
    by_cases e : y = x
    · subst e
      rw [if_pos rfl, if_pos (by simp [Value.isStr])]
      exact .cons c q
    · rw [if_neg e, if_neg (by simp [Value.isStr, e])]
      exact .cons c' ih
theorem NsC.length {h : Heap} {r : Nat → Addr} {N : Nat} {es : List DictEntry} {fs : List (Str × SV)} (q : NsC h r N es fs) : es.length = fs.length := by
  induction q with
  | nil => rfl
  | cons _ _ ih => simp [ih]
theorem NsC.noRef {h : Heap} {r : Nat → Addr} {N : Nat} {es : List DictEntry} {fs : List (Str × SV)} (q : NsC h r N es fs) : (es.any fun e => e.refKey) = false := by
  induction q with
  | nil => rfl
  | cons _ _ ih => simp only [List.any_cons, ih, Bool.or_false]; rfl
set_option tactic.hygienic true in
theorem put_name {x : Str} {h : Int} {key v : Value} {es : List DictEntry} {n : Nat} : ∃ n', Obj.putName x h key v (dictOf es n) = dictOf (nsPutIn x.cps.size x.cps.toList (putF h key v) es).1 n' := by
  unfold Obj.putName
  dsimp only [PySem.W.dictOf]
  split
  · rename_i es' e
    have e : nsPutIn x.cps.size x.cps.toList (putF h key v) es = (es', false) := e
    exact ⟨n, by rw [e]⟩
  · rename_i es' e
    have e : nsPutIn x.cps.size x.cps.toList (putF h key v) es = (es', true) := e
    exact ⟨n + 1, by rw [e]⟩

noncomputable def asInst (x : Option AO) (k : Nat → Nat → Prop) : Prop := match x with
  | some o => (match o with
    | .inst c d => k c d
    | _ => False)
  | none => False
theorem asInst_of {x : Option AO} {k : Nat → Nat → Prop} (h : asInst x k) : ∃ c d, x = some (.inst c d) ∧ k c d := by
  cases x with
  | some o => cases o with
    | inst c d => exact ⟨c, d, rfl, h⟩
    | _ => exact (show False from h).elim
  | none => exact (show False from h).elim
noncomputable def asNs (x : Option AO) (k : List (Str × SV) → Prop) : Prop := match x with
  | some o => (match o with
    | .ns l => k l
    | _ => False)
  | none => False
theorem asNs_of {x : Option AO} {k : List (Str × SV) → Prop} (h : asNs x k) : ∃ l, x = some (.ns l) ∧ k l := by
  cases x with
  | some o => cases o with
    | ns l => exact ⟨l, rfl, h⟩
    | _ => exact (show False from h).elim
  | none => exact (show False from h).elim
noncomputable def preAttr (x : SV) (a : Str) (H : AH) (K : Kv) : Prop := asRef x fun m => asInst H[m]? fun c d => asNs H[d]? fun fs => asSome (lk a fs) fun sv => ownOk c a = true ∧ sv.own = true ∧ K sv H
noncomputable def opInst (x : Option AO) : Option (Nat × Nat) := match x with
  | some o => (match o with
    | .inst c d => some (c, d)
    | _ => none)
  | none => none
theorem opInst_of {x : Option AO} {p : Nat × Nat} (h : opInst x = some p) : x = some (.inst p.1 p.2) := by
  cases x with
  | some o => cases o with
    | inst c d => cases h; rfl
    | _ => exact noS h
  | none => exact noS h
noncomputable def opNs (x : Option AO) : Option (List (Str × SV)) := match x with
  | some o => (match o with
    | .ns l => some l
    | _ => none)
  | none => none
theorem opNs_of {x : Option AO} {l : List (Str × SV)} (h : opNs x = some l) : x = some (.ns l) := by
  cases x with
  | some o => cases o with
    | ns c => cases h; rfl
    | _ => exact noS h
  | none => exact noS h
noncomputable def preMeth (x : SV) (a : Str) (H : AH) : Option Addr := match x with
  | .ref m => (opInst H[m]?).bind fun p => (opNs H[p.2]?).bind fun fs => if (lk a fs).isSome = true then none else methOf p.1 a
  | _ => none
theorem preMeth_of {x : SV} {a : Str} {H : AH} {f : Addr} (h : preMeth x a H = some f) : ∃ m c d fs, x = .ref m ∧ H[m]? = some (.inst c d) ∧ H[d]? = some (.ns fs) ∧ lk a fs = none ∧ methOf c a = some f := by
  cases x with
  | ref m =>
    obtain ⟨p, h1, h⟩ := Option.bind_eq_some_iff.mp (show (opInst H[m]?).bind _ = some f from h)
    obtain ⟨fs, h2, h⟩ := Option.bind_eq_some_iff.mp h
    cases e : lk a fs with
    | none => rw [e] at h; exact ⟨m, p.1, p.2, fs, rfl, opInst_of h1, opNs_of h2, e, h⟩
    | some _ => rw [e] at h; exact noS h
  | _ => exact noS h
noncomputable def preSetAttr (x : SV) (a : Str) (v : SV) (H : AH) (K : AH → Prop) : Prop := asRef x fun m => asInst H[m]? fun c d => asNs H[d]? fun fs => ownOk c a = true ∧ Nat.ble fs.length 900 = true ∧ K (H.set d (.ns (put a v fs)))
section
variable {prog : Program} {w : World} {h₀ : Heap} {A : Around} {E : Value → Shared → Prop} {s : Shared} {g : Sg} {K : Kv} {Q : Value → Shared → Prop} {n : Nat}
theorem SC.handed {h : Heap} {r : Nat → Addr} {N : Nat} {v : Value} {sv : SV} (c : SC h r N v sv) (o : sv.own = true) : handedIn v = true := by
  cases c with
  | p c => cases c <;> rfl
  | ref _ => rfl
  | raw _ => cases o
  | tup _ _ _ _ => rfl
  | rng _ => rfl
theorem St.inst (S : St prog w h₀ s g) {m c d : Nat} {fs : List (Str × SV)} (e1 : g.H[m]? = some (.inst c d)) (e2 : g.H[d]? = some (.ns fs)) :
    ∃ es k, PySem.W.InstAt s.heap (g.r m) (instObj c (g.r d)) c (some (dictOf es k)) ∧ s.heap.get? (g.r d) = some (dictOf es k) ∧ NsC s.heap g.r g.H.length es fs := by
  obtain ⟨_, h1⟩ := S.obj _ _ e1
  obtain ⟨es, k, h2, h3⟩ := S.obj _ _ e2
  exact ⟨es, k, ⟨h1, rfl, rfl, h2⟩, h2, h3⟩
theorem attr_ok (B : Bs w h₀) {x : SV} {a : Value} {nm : Str} {expr : Bool} (h : preAttr x nm g.H K) (S : St prog w h₀ s g) (ca : SC s.heap g.r g.H.length a x) (G : Gives prog w h₀ s g K Q) : wpAny (model prog w) A (getAttr a nm expr) Q E s := by
  obtain ⟨m, rfl, h⟩ := asRef_of h
  obtain ⟨c, d, e1, h⟩ := asInst_of h
  obtain ⟨fs, e2, h⟩ := asNs_of h
  obtain ⟨sv, e3, ho, hv, h⟩ := asSome_of h
  obtain ⟨hm, rfl⟩ := ca.ref_of
  obtain ⟨es, k, I, hd, q⟩ := S.inst e1 e2
  obtain ⟨hc, f1, f2⟩ := own_facts (P := w.params) ho
  obtain ⟨g1, g2, g3, g4, g5⟩ := cls_facts (P := w.params) hc
  have qf := q.find (x := nm)
  rw [e3] at qf
  obtain ⟨v, hl, sc⟩ := qf
  exact get_value (B.k.keeps S.keep) I g1 (findObj_own g4 f1 rfl ((lookIn_dict _ _ _).trans hl)) (sc.handed hv) (G.tok S _ sc h)
theorem meth_ok (B : Bs w h₀) {x : SV} {a : Value} {nm : Str} {f : Addr} {pl : Sem Bool} {Q : Value × List Value → Shared → Prop} (h : preMeth x nm g.H = some f) (S : St prog w h₀ s g) (ca : SC s.heap g.r g.H.length a x) (hQ : Q (.ref f, [a]) s) :
    wpAny (model prog w) A (getMethod a nm pl) Q E s := by
  obtain ⟨m, c, d, fs, rfl, e1, e2, e3, h⟩ := preMeth_of h
  obtain ⟨hm, rfl⟩ := ca.ref_of
  obtain ⟨es, k, I, hd, q⟩ := S.inst e1 e2
  obtain ⟨hc, f1, f2⟩ := meth_facts (P := w.params) h
  obtain ⟨g1, g2, g3, g4, g5⟩ := cls_facts (P := w.params) hc
  have qf := q.find (x := nm)
  rw [e3] at qf
  exact method_fn (B.k.keeps S.keep) I g1 g2 f1 f2 (by show (lookIn nm (dictOf es k)).map _ = _; rw [lookIn_dict, qf]; rfl) hQ
open Builtin Builtin.ObjectAttr in
theorem store_own {x dx C : Addr} {nm : Str} {tk : Tok} {v : Value} {b : Bool} {es : List DictEntry} {k : Nat} {R : Fin → Shared → Prop} {P : Params} (X : (Mine.K P).In s.heap) (hx : s.heap.get? x = some (instObj C dx)) (hd : s.heap.get? dx = some (dictOf es k))
    (hh : hasDictIn (Mine.K P) C = true) (hr : (es.any fun e => e.refKey) = false) (hz : es.length ≤ 1000)
    (h : R (.done (.ret .none)) { s with heap := s.heap.update dx (Obj.putName nm (PyData.keyHash w.params nm) (.str nm s.toks) v), toks := s.toks + 1 }) :
    wpAny (model prog w) A (storeInOwnDict (.ref x) (.ref C) (.str nm tk) nm v b) R E s := by
  obtain ⟨cd, hc, hd'⟩ := any_some hh
  obtain ⟨k', e'⟩ := put_name (x := nm) (h := PyData.keyHash w.params nm) (key := .str nm s.toks) (v := v) (es := es) (n := k)
  have D' : (s.heap.update dx (Obj.putName nm (PyData.keyHash w.params nm) (.str nm s.toks) v)).get? dx = some (dictOf (nsPutIn nm.cps.size nm.cps.toList (putF (PyData.keyHash w.params nm) (.str nm s.toks) v) es).1 k') := by
    rw [Heap.get?_update_self _ hd (by rw [e']; rfl), e']
  refine wpAny_bind (wpAny_pure (wpAny_bind (wpAny_bind (wpAny_loadPart hx (wpAny_bind ((looks_clsIn X hc).here ?_))))))
  rw [hd']
  refine wpAny_pure (a := some dx) (wpAny_bind (wpAny_pure (wpAny_bind ?_)))
  unfold nsSet
  refine wpAny_bind (wpAny_bind (wpAny_askSetting (wpAny_pure (wpAny_bind (wpAny_mkText (wpAny_bind (wpAny_loadPart hd ?_)))))))
  dsimp only
  have c : aRefKeyMayBeTheName nm es.toArray = false := by
    rw [aRefKeyMayBeTheName_at, ← Array.any_toList, ← Array.any_toList]
    show (_ && es.any fun e => e.refKey) = false
    rw [hr, Bool.and_false]
  rw [c]
  refine wpAny_updatePart hd ?_
  refine wpAny_bind (wpAny_lookBehind D' (pastItsLine_dict ?_) ?_)
  · rw [List.size_toArray]
    have : ∀ (f : Option DictEntry → DictEntry) (l : List DictEntry), (nsPutIn nm.cps.size nm.cps.toList f l).1.length ≤ l.length + 1 := by
      intro f l
      induction l with
      | nil => simp [nsPutIn]
      | cons a r ih =>
        unfold nsPutIn
        split
        · simp
        · simp only [List.length_cons]; omega
    have := this (putF (PyData.keyHash w.params nm) (.str nm s.toks) v) es
    unfold sizeLine
    omega
  · exact wpAny_pure h
theorem setAttr_ok (B : Bs w h₀) {x sv : SV} {a v : Value} {nm : Str} {Kh : AH → Prop} {Q : Unit → Shared → Prop} (h : preSetAttr x nm sv g.H Kh) (S : St prog w h₀ s g) (ca : SC s.heap g.r g.H.length a x) (cv : SC s.heap g.r g.H.length v sv)
    (G : ∀ s' g', Po prog w h₀ s g s' g' NoX → Kh g'.H → Q () s') : wpAny (model prog w) A (setAttr a nm v) Q E s := by
  obtain ⟨m, rfl, h⟩ := asRef_of h
  obtain ⟨c, d, e1, h⟩ := asInst_of h
  obtain ⟨fs, e2, h⟩ := asNs_of h
  obtain ⟨ho, hf, h⟩ := h
  have hf := Nat.le_of_ble_eq_true hf
  obtain ⟨hm, rfl⟩ := ca.ref_of
  obtain ⟨es, k, I, hd, q⟩ := S.inst e1 e2
  obtain ⟨hc, f1, f2⟩ := own_facts (P := w.params) ho
  obtain ⟨g1, g2, g3, g4, g5⟩ := cls_facts (P := w.params) hc
  have X := B.k.keeps S.keep
  refine set_plain X I g3 (osa_open (s := { s with toks := s.toks + 1 }) X I g5 f2 fun b => ?_)
  refine store_own (s := { s with toks := s.toks + 1 }) (P := w.params) X I.at_ hd g4 q.noRef (by rw [q.length]; omega) ?_
  obtain ⟨k', e'⟩ := put_name (x := nm) (h := PyData.keyHash w.params nm) (key := .str nm (s.toks + 1)) (v := v) (es := es) (n := k)
  have D' := Heap.get?_update_self (Obj.putName nm (PyData.keyHash w.params nm) (.str nm (s.toks + 1)) v) hd (by rw [e']; rfl)
  rw [e'] at D'
  have tk := S.tkUpd e2 (by intro z; cases z) (Obj.putName nm (PyData.keyHash w.params nm) (.str nm (s.toks + 1)) v)
  refine G _ ⟨g.r, g.H.set d (.ns (put nm sv fs))⟩ (Po.upd S e2 (by intro z; cases z) (by intro z; cases z) (Heap.SameBut.update ..) ⟨_, _, D', ?_⟩) h
  have hl : (g.H.set d (.ns (put nm sv fs))).length = g.H.length := List.length_set
  exact ((q.put cv rfl).mono tk (fun _z _z => rfl) (Nat.le_of_eq hl.symm))
end
end Mine

namespace Mine
open PySem PySem.W PySem.Calls PyProof.Rows

noncomputable def intsOf : List PV → Option (List Int)
  | [] => some []
  | .int i :: r => (intsOf r).map (i :: ·)
  | _ => none
noncomputable def strsOf : List PV → Option (List Str)
  | [] => some []
  | .str x :: r => (strsOf r).map (x :: ·)
  | _ => none
noncomputable def preIsi (x : SV) (T : String) (K : Bool → Prop) : Prop := asPV x fun x => match x with
  | .int _ => if T = "int" then K true else T = "bool" ∧ K false
  | .tup _ => T = "tuple" ∧ K true
  | .str _ => T = "str" ∧ K true
  | .bytes _ => T = "bytes" ∧ K true
  | _ => False
noncomputable def lenP (x : PV) (K : Nat → Prop) : Prop := match x with
  | .tup l => l.length < 2 ^ 40 ∧ K l.length
  | .str x => x.length < 2 ^ 40 ∧ K x.length
  | .bytes b => b.size < 2 ^ 40 ∧ K b.size
  | _ => False
noncomputable def preLen (x : SV) (H : AH) (K : Nat → Prop) : Prop := match x with
  | .ref m => asList H[m]? fun l => l.length < 2 ^ 40 ∧ K l.length
  | .p x => lenP x K
  | _ => False
noncomputable def intPV (ns : List Int) : List PV := ns.map .int
noncomputable def ordC (a : Str) (k : Nat → Prop) : Prop := match a.cps.toList with
  | [] => False
  | c :: r => r = [] ∧ k c
noncomputable def preB1 (id : String) (x : SV) (H : AH) (K : Kv) : Prop :=
  if id = "len" then preLen x H fun n => K (.p (.int n)) H
  else if id = "ord" then asStr x fun a => ordC a fun c => K (.p (.int c)) H
  else if id = "chr" then asInt x fun i => 0 ≤ i ∧ i ≤ 1114111 ∧ K (.p (.str ⟨#[i.toNat]⟩)) H
  else if id = "abs" then asInt x fun i => K (.p (.int i.natAbs)) H
  else if id = "sum" then asRef x fun m => asList H[m]? fun l => asSome (intsOf l) fun ns => K (.p (.int ns.sum)) H
  else if id = "sorted" then asRef x fun m => asId H[m]? fun l => l.length < 64 ∧ ∀ ns : List Int, ns.Perm (l.map (·.1)) → ns.Pairwise (· ≤ ·) → K (.ref H.length) (H ++ [.list (intPV ns)])
  else False
noncomputable def bytePV (b : Array UInt8) : List PV := b.toList.map fun c => .int c.toNat
noncomputable def intT (x : PV) (H : AH) (K : Kv) : Prop := match x with
  | .int i => K (.p (.int i)) H
  | .bool b => K (.p (.int (if b = true then 1 else 0))) H
  | _ => False
noncomputable def asBytes (x : SV) (k : Array UInt8 → Prop) : Prop := asPV x fun x => match x with
  | .bytes b => k b
  | _ => False
theorem asBytes_of {x : SV} {k : Array UInt8 → Prop} (h : asBytes x k) : ∃ b, x = .p (.bytes b) ∧ k b := by
  obtain ⟨y, rfl, hh⟩ := asPV_of h
  cases y with
  | bytes b => exact ⟨b, rfl, hh⟩
  | _ => exact (show False from hh).elim
noncomputable def preT1 (T : String) (x : SV) (H : AH) (K : Kv) : Prop :=
  if T = "int" then asPV x fun x => intT x H K
  else if T = "range" then asInt x fun i => K (.rng 0 i) H
  else if T = "tuple" then asRef x fun m => asList H[m]? fun l => l.length ≤ sizeLine ∧ K (.p (.tup l)) H
  else if T = "bytes" then asRef x fun m => asList H[m]? fun l => asSome (intsOf l) fun ns => (∀ n ∈ ns, 0 ≤ n ∧ n < 256) ∧ l.length ≤ sizeLine ∧ K (.p (.bytes (byteArr ns))) H
  else if T = "list" then asBytes x fun b => b.size ≤ 2 ^ 24 ∧ K (.ref H.length) (H ++ [.list (bytePV b)])
  else False
section
variable {prog : Program} {w : World} {h₀ : Heap} {A : Around} {E : Value → Shared → Prop} {s : Shared} {g : Sg} {K : Kv} {Q : Value → Shared → Prop} {n : Nat}
theorem PCs.ints {h : Heap} : ∀ {vs : List Value} {l : List PV}, PCs h vs l → ∀ {ns : List Int}, intsOf l = some ns → IntsAre vs ns
  | _, _, .nil, ns, e => by cases e; exact .nil
  | _, _, .cons a r, ns, e => by
    cases a with
    | int i t =>
      simp only [intsOf] at e
      obtain ⟨ms, h1, rfl⟩ := Option.map_eq_some_iff.mp e
      exact .cons _ _ (PCs.ints r h1)
    | _ => simp [intsOf] at e
theorem PCs.strs {h : Heap} : ∀ {vs : List Value} {l : List PV}, PCs h vs l → ∀ {ns : List Str}, strsOf l = some ns → ∃ ps : List (Str × Tok), vs = strValues ps ∧ ps.map (·.1) = ns
  | _, _, .nil, ns, e => by cases e; exact ⟨[], rfl, rfl⟩
  | _, _, .cons a r, ns, e => by
    cases a with
    | str i t =>
      simp only [strsOf] at e
      obtain ⟨ms, h1, rfl⟩ := Option.map_eq_some_iff.mp e
      obtain ⟨ps, h2, h3⟩ := PCs.strs r h1
      exact ⟨(i, t) :: ps, by rw [h2]; rfl, by rw [← h3]; rfl⟩
    | _ => simp [strsOf] at e
theorem ints_pairs {vs : List Value} {ns : List Int} (h : IntsAre vs ns) : ∃ xs : Array (Int × Tok), vs.toArray = intItems xs ∧ xs.toList.map (·.1) = ns := by
  induction h with
  | nil => exact ⟨#[], by simp [intItems], rfl⟩
  | cons n t _ ih =>
    obtain ⟨xs, h1, h2⟩ := ih
    refine ⟨((n, t) :: xs.toList).toArray, ?_, by simp [h2]⟩
    have h1' := congrArg Array.toList h1
    simp only [intItems, Array.toList_map] at h1'
    apply Array.toList_inj.mp
    simp only [intItems, Array.toList_map, List.map_cons]
    rw [← h1']
theorem PCs.ofGet {h : Heap} : ∀ {vs : List Value} {l : List PV}, vs.length = l.length → (∀ (j : Nat) v, vs[j]? = some v → ∃ x, l[j]? = some x ∧ PC h v x) → PCs h vs l
  | [], [], _, _ => .nil
  | v :: vs, x :: l, e, k => by
    obtain ⟨y, h1, h2⟩ := k 0 v rfl
    cases h1
    exact .cons h2 (PCs.ofGet (by simpa using e) fun j v hj => k (j + 1) v (by simpa using hj))
  | [], _ :: _, e, _ => by simp at e
  | _ :: _, [], e, _ => by simp at e
theorem hint_bytes {b : Array UInt8} {t : Tok} {Q : Bool → Shared → Prop} (h : Q false s) : wpAny (model prog w) A (Builtin.List.listLengthHint (.bytes b t)) Q E s := by
  unfold Builtin.List.listLengthHint
  refine wpAny_bind (wpAny_specialOf (T := "bytes") (v := .bytes b t) rfl FB.slot_bytes_len.lookup ?_)
  wp_delta
  refine wpAny_bind (wpAny_isInstance (T := "bytes") (v := .bytes b t) (b := true) rfl (by rw [isSubtype_type]; kernel_rfl) ?_)
  show wpAny _ _ (typeOf (Value.bytes b t) >>= _) _ _ _
  exact wpAny_bind (wpAny_typeOf (T := "bytes") (v := .bytes b t) rfl (wpAny_pure h))
noncomputable def ByteAt (b : Array UInt8) (i : Nat) (v : Value) : Prop := ∃ (c : UInt8) (u : Tok), b[i]? = some c ∧ v = .int (c.toNat : Int) u
theorem extend_bytes {R : Result → Shared → Prop} (hh : A.handled = none) (b : Array UInt8) (t : Tok) (D : Addr) (res : Value) (c₀ : Nat) (hD : s.heap.get? D = some { cls := .type "list", data := .seq #[] c₀ })
    (hR : ∀ h' tk acc c, (∀ x o, x ≠ D → s.heap.get? x = some o → h'.get? x = some o) → h'.get? D = some { cls := .type "list", dict := none, data := .seq acc c, slots := #[] } → ItemsOf (ByteAt b) acc b.size → R (.ok (.ret res)) { s with heap := h', toks := tk }) (hn : b.size ≤ sizeLine) :
    wpAny (model prog w) A.in1 (Builtin.List.listExtendWith (.ref D) (.bytes b t) res)
      (fun fin s' => match fin with | .done f => R (.ok f) s' | .again c' => c'.quiet = true ∧ codeAny (model prog w) A c' R s') (fun e s' => R (.error e) s') s := by
  have ne : D ∉ [s.heap.objs.size] := fun hm => Nat.ne_of_lt (Heap.lt_size hD) (List.mem_singleton.mp hm)
  unfold Builtin.List.listExtendWith
  refine wpAny_bind (wpAny_typeOf (T := "bytes") (v := .bytes b t) rfl ?_)
  have e1 : Builtin.List.listSameRef (.ref D) (.bytes b t) = false := rfl
  have e2 : (Value.type "bytes" == Value.type "list") = false := by decide
  have e3 : (Value.type "bytes" == Value.type "tuple") = false := by decide
  simp only [e1, e2, e3, Bool.or_false, Bool.false_eq_true, if_false]
  refine wpAny_bind (KBw.pyIter_bytes (wpAny_bind (wpAny_holding (hint_bytes ?_))))
  rw [if_neg (by decide)]
  refine wpAny_pure ⟨plainId_quiet PySem.F.plain_extend_loop _, codeAny_extend_loopS (KBw.walks (A := A.in1) hh s.heap.objs.size b t).toS hn _ ne _ b.size 0 _ _ _ rfl (Nat.zero_le _) ⟨_, Heap.get?_push_size _ rfl, rfl, rfl⟩ (Heap.get?_push_of_some _ hD) (ItemsOf.nil _) fun s' acc c hm hD' hacc => ?_⟩
  rw [Moved.eq_with hm]
  refine hR s'.heap s'.toks acc c (fun x o hx e => hm.heap x o (fun hmem => ?_) (Heap.get?_push_of_some _ e)) hD' hacc
  rcases List.mem_cons.mp hmem with q | hmem
  · exact hx q
  · exact absurd (Heap.lt_size e) (by rw [List.mem_singleton.mp hmem]; exact Nat.lt_irrefl _)
theorem list_bytes {b : Array UInt8} {t : Tok} (hh : A.handled = none) (hn : b.size ≤ 2 ^ 24) (S : St prog w h₀ s g) (G : Gives prog w h₀ s g K Q) (h : K (.ref g.H.length) (g.H ++ [.list (bytePV b)])) : wpAny (model prog w) A (call (.type "list") [.bytes b t]) Q E s := by
  have hn : b.size ≤ sizeLine := Nat.le_trans hn (by decide)
  refine wpAny_with_size ?_
  refine callType_codes (Q₁ := fun obj s₁ => obj = .ref s.heap.objs.size ∧ s₁ = { s with heap := s.heap.push { cls := .type "list", data := .seq #[] } }) PySem.F.called_list (PySem.F.typeCall_list_1 _) PySem.F.entry_list_init (code_list_new _ ⟨rfl, rfl⟩) fun obj s₁ h₁ => ?_
  obtain ⟨rfl, rfl⟩ := h₁
  have hD : (s.heap.push { cls := .type "list", data := .seq #[] }).get? s.heap.objs.size = some { cls := .type "list", data := .seq #[] } := Heap.get?_push_size _ rfl
  refine ⟨⟨_, hD, rfl⟩, PySem.F.args_list_init_2 _ _, ?_⟩
  show wpAny _ _ (do let old ← Builtin.List.listItems (.ref s.heap.objs.size); Builtin.List.listUpdate (.ref s.heap.objs.size) (fun _z => #[]); letGo old.toList.reverse; Builtin.List.listExtendWith (.ref s.heap.objs.size) (.bytes b t) .none) _ _ _
  refine wpAny_bind ?_
  unfold Builtin.List.listItems
  refine wpAny_bind (wpAny_seqItems hD rfl (wpAny_pure ?_))
  show wpAny _ _ (updateSeq s.heap.objs.size (fun _z => #[]) >>= fun _z => letGo (#[] : Array Value).toList.reverse >>= fun _z => Builtin.List.listExtendWith (.ref s.heap.objs.size) (.bytes b t) .none) _ _ _
  refine wpAny_bind (wpAny_updateSeq hD rfl (wpAny_bind (wpAny_letGo ?_)))
  have hD2 := Heap.get?_update_self (Obj.mapSeq (fun _z => (#[] : Array Value))) hD rfl
  refine extend_bytes (A := A.in1) hh b t _ .none _ hD2 (fun h' tk acc c hk hD' hacc => ⟨rfl, fun hz => ?_⟩) hn
  have keep : ∀ x o, s.heap.get? x = some o → h'.get? x = some o := fun x o e => by
    have ne : x ≠ s.heap.objs.size := Nat.ne_of_lt (Heap.lt_size e)
    exact hk x o ne ((Heap.get?_update_other _ _ (Ne.symm ne)).trans (Heap.get?_push_of_some _ e))
  refine G.newList S keep (Heap.lt_size hD') (vs := acc) (n := c) hD' ?_ h
  refine PCs.ofGet (by rw [Array.length_toList, hacc.1]; simp [bytePV]) fun j v hj => ?_
  obtain ⟨c', u, e1, rfl⟩ := hacc.2 j v (by rw [← Array.getElem?_toList]; exact hj)
  exact ⟨.int c'.toNat, by rw [bytePV, List.getElem?_map, Array.getElem?_toList, e1]; rfl, .int _ _⟩
theorem IntsAre.ofGet : ∀ {vs : List Value} {ns : List Int}, vs.length = ns.length → (∀ (j : Nat) v, vs[j]? = some v → ∃ n t, ns[j]? = some n ∧ v = .int n t) → IntsAre vs ns
  | [], [], _, _ => .nil
  | v :: vs, x :: l, e, k => by
    obtain ⟨y, t, h1, rfl⟩ := k 0 v rfl
    cases h1
    exact .cons _ _ (IntsAre.ofGet (by simpa using e) fun j v hj => k (j + 1) v (by simpa using hj))
  | [], _ :: _, e, _ => by simp at e
  | _ :: _, [], e, _ => by simp at e
theorem IntsAre.pcs {h : Heap} {vs : List Value} {ns : List Int} (q : IntsAre vs ns) : PCs h vs (intPV ns) := by
  induction q with
  | nil => exact .nil
  | cons n t _ ih => exact .cons (.int n t) ih
theorem sorted_idict (B : Bs w h₀) (hh : A.handled = none) {m : Nat} {l : List (Int × Int)} (S : St prog w h₀ s g) (hm : m < g.H.length) (el : g.H[m]? = some (.idict l)) (h64 : l.length < 64) (G : Gives prog w h₀ s g K Q)
    (h : ∀ ns : List Int, ns.Perm (l.map (·.1)) → ns.Pairwise (· ≤ ·) → K (.ref g.H.length) (g.H ++ [.list (intPV ns)])) : wpAny (model prog w) A (call (.builtin "sorted") [.ref (g.r m)]) Q E s := by
  obtain ⟨kvs, hd, hv⟩ := S.obj _ _ el
  obtain ⟨ep, hat⟩ := hd.dictAt
  have hl := hv.length
  refine wpAny_with_size ?_
  refine Calls.call_function_entry kind_sorted plain_sorted entry_sorted (args_sorted1 _) ?_
  unfold Builtin.«sorted»
  refine wpAny_bind (m := checkCount "sorted" 1 1 _) (wpAny_pure ?_)
  refine wpAny_bind (wpAny_with_size (kdu_collect (A := A.in1) (kdl_dict (knd := PySem.intKind prog w) (kvs := kvs) (ep := ep) (B.smNe (S.new _ hm))) hh hat (by rw [hl]; exact Nat.le_trans (Nat.le_of_lt h64) (by decide)) fun h' tk acc hk hacc hz => ?_))
  have hI : IntsAre acc.toList (l.map (·.1)) := by
    refine IntsAre.ofGet (by rw [Array.length_toList, hacc.1, List.length_map, hl]) fun j v hj => ?_
    obtain ⟨k, x, e1, e2⟩ := hacc.2 j v (by rw [← Array.getElem?_toList]; exact hj)
    obtain ⟨t, rfl⟩ := Value.isInt_shape e2
    refine ⟨k, t, ?_, rfl⟩
    rw [← hv.nodup_keys, List.getElem?_map, e1]; rfl
  have hal : acc.toList.length < 64 := by rw [Array.length_toList, hacc.1, hl]; exact h64
  refine wpAny_bind (wpAny_newList ?_ (Nat.le_trans (Nat.le_of_lt hal) (by decide)))
  have hoL : (h'.push (seqObj "list" acc.toList.toArray 0)).get? h'.objs.size = some (seqObj "list" acc.toList.toArray 0) := Heap.get?_push_size _ rfl
  refine wpAny_bind (wpAny_holding (wpAny_call_entry slot_list_sort ⟨_, hoL, rfl⟩ entry_list_sort (list_sort_tree hoL hI hal fun out ns' a1 a2 a3 => ⟨_, rfl, ?_⟩) (args_list_sort _)))
  refine wpAny_pure ⟨_, rfl, fun hz2 => ?_⟩
  have szp : (h'.push (seqObj "list" acc.toList.toArray 0)).objs.size = h'.objs.size + 1 := Heap.size_push ..
  have keep : ∀ x o, s.heap.get? x = some o → (sortedHeap (h'.push (seqObj "list" acc.toList.toArray 0)) h'.objs.size acc.toList out).get? x = some o := fun x o e => by
    have hx := hk x o e
    have ne : x ≠ h'.objs.size := Nat.ne_of_lt (Heap.lt_size hx)
    unfold sortedHeap
    rw [Heap.get?_update_other _ _ (Ne.symm ne)]
    refine Heap.get?_push_of_some _ (Heap.get?_push_of_some _ ?_)
    rw [Heap.get?_update_other _ _ (Ne.symm ne)]
    exact Heap.get?_push_of_some _ hx
  have hres : ∃ c, (sortedHeap (h'.push (seqObj "list" acc.toList.toArray 0)) h'.objs.size acc.toList out).get? h'.objs.size = some (W.listOf out c) := by
    unfold sortedHeap
    have u1 := Heap.get?_update_self (Obj.mapSeq fun _z => #[]) hoL rfl
    have u2 := Heap.get?_push_of_some (seqObj "list" #[] 0) (Heap.get?_push_of_some (seqObj "tuple" acc.toList.toArray 0) u1)
    exact ⟨_, Heap.get?_update_self (Obj.mapSeq fun _z => out) u2 rfl⟩
  obtain ⟨c, hres⟩ := hres
  have P := Po.add S (tk' := tk) (a := h'.objs.size) (o := .list (intPV ns')) keep (Nat.le_trans hz (Nat.le_of_lt (Heap.lt_size hres))) hz ⟨out, c, hres, IntsAre.pcs a1⟩ (by intro e; cases e)
  exact G _ _ _ _ P (Sg.add_ref ..) (h ns' a2 a3)
theorem isi_ok {x : SV} {a : Value} {T : String} {P : Bool → Prop} (h : preIsi x T P) (ca : SC s.heap g.r g.H.length a x) (hQ : ∀ r k, P r → Q (.bool r) { s with toks := k }) :
    wpAny (model prog w) A (call (.builtin "isinstance") [a, .type T]) Q E s := by
  obtain ⟨y, rfl, hh⟩ := asPV_of h
  clear h
  cases y with
  | int i =>
    obtain ⟨t, rfl⟩ := ca.int_of
    have hh : if T = "int" then P true else T = "bool" ∧ P false := hh
    by_cases e : T = "int"
    · rw [if_pos e] at hh; subst e
      exact IsiPair.int_int (hQ _ s.toks hh)
    · rw [if_neg e] at hh
      obtain ⟨rfl, h⟩ := hh
      exact IsiPair.int_bool (hQ _ _ h)
  | tup l =>
    obtain ⟨_, _, _, _, rfl, e, c, d, q⟩ := ca.tup_of
    obtain ⟨rfl, h⟩ : T = "tuple" ∧ _ := hh
    exact IsiPair.tuple_tuple e c (hQ _ s.toks h)
  | str x =>
    obtain ⟨t, rfl⟩ := ca.str_of
    obtain ⟨rfl, h⟩ : T = "str" ∧ _ := hh
    exact IsiPair.str_str (hQ _ s.toks h)
  | bytes b =>
    obtain ⟨t, rfl⟩ := ca.bytes_of
    obtain ⟨rfl, h⟩ : T = "bytes" ∧ _ := hh
    exact call_isinstance (isinstance_true (Tx := "bytes") PySem.F.isi_meta_bytes PySem.F.sub_bytes_bytes) ⟨rfl, hQ _ s.toks h⟩
  | _ => exact (show False from hh).elim
theorem len_ok {x : SV} {a : Value} {P : Nat → Prop} (h : preLen x g.H P) (S : St prog w h₀ s g) (ca : SC s.heap g.r g.H.length a x) (hQ : ∀ (r : Nat) t k, P r → Q (.int r t) { s with toks := k }) : wpAny (model prog w) A (call (.builtin "len") [a]) Q E s := by
  cases x with
  | ref m =>
    obtain ⟨l, e, h1, h2⟩ := asList_of h
    obtain ⟨hm, rfl⟩ := ca.ref_of
    obtain ⟨vs, c, o1, p1⟩ := OC.at_list S e
    have l1 := p1.length
    rw [Array.length_toList] at l1
    refine call_len_list (IsList.of o1) (by rw [l1]; omega) ?_
    rw [l1]
    exact hQ _ _ _ h2
  | p x => cases x with
    | tup l =>
      obtain ⟨_, _, _, _, rfl, e, c, d, q⟩ := ca.tup_of
      have l1 := q.length
      rw [Array.length_toList] at l1
      obtain ⟨h1, h2⟩ : _ ∧ _ := h
      refine len_tuple ⟨_, e, c, _, d⟩ (by rw [l1]; omega) ?_
      rw [l1]
      exact hQ _ _ _ h2
    | str x =>
      obtain ⟨t, rfl⟩ := ca.str_of
      obtain ⟨h1, h2⟩ : x.length < 2 ^ 40 ∧ _ := h
      exact PySem.P.len_str (by omega) (hQ _ _ _ h2)
    | bytes b =>
      obtain ⟨t, rfl⟩ := ca.bytes_of
      obtain ⟨h1, h2⟩ : b.size < 2 ^ 40 ∧ _ := h
      exact len_bytes (by omega) (hQ _ _ _ h2)
    | _ => exact (show False from h).elim
  | _ => exact (show False from h).elim
theorem b1_ok (B : Bs w h₀) (R : Rm A n) {id : String} {x : SV} {a : Value} (h : preB1 id x g.H K) (S : St prog w h₀ s g) (ca : SC s.heap g.r g.H.length a x) (G : Gives prog w h₀ s g K Q) : wpAny (model prog w) A (call (.builtin id) [a]) Q E s := by
  unfold preB1 at h
  by_cases e : id = "len"
  · rw [if_pos e] at h; subst e
    exact len_ok h S ca fun r t k hr => G.tok S k (.p (.int _ _)) hr
  rw [if_neg e] at h; clear e
  by_cases e : id = "ord"
  · rw [if_pos e] at h; subst e
    obtain ⟨b, rfl, hh⟩ := asStr_of h
    obtain ⟨t, rfl⟩ := ca.str_of
    unfold ordC at hh
    obtain ⟨⟨L⟩⟩ := b
    rcases L with _ | ⟨c, L⟩
    · exact (show False from hh).elim
    · obtain ⟨rfl, h2⟩ := hh
      exact PySem.P.ord_of_char (G.tok S _ (.p (.int _ _)) h2)
  rw [if_neg e] at h; clear e
  by_cases e : id = "chr"
  · rw [if_pos e] at h; subst e
    obtain ⟨i, rfl, h1, h2, hh⟩ := asInt_of h
    obtain ⟨t, rfl⟩ := ca.int_of
    exact PySem.P.chr_of_int (by simp; omega) (G.tok S _ (.p (.str _ _)) hh)
  rw [if_neg e] at h; clear e
  by_cases e : id = "abs"
  · rw [if_pos e] at h; subst e
    obtain ⟨i, rfl, hh⟩ := asInt_of h
    obtain ⟨t, rfl⟩ := ca.int_of
    refine call_abs_int fun u k => ?_
    rw [show (if i < 0 then -i else i) = (i.natAbs : Int) by omega]
    exact G.tok S _ (.p (.int _ _)) hh
  rw [if_neg e] at h; clear e
  by_cases e : id = "sum"
  · rw [if_pos e] at h; subst e
    obtain ⟨m, rfl, hh⟩ := asRef_of h
    obtain ⟨l, el, hh⟩ := asList_of hh
    obtain ⟨ns, en, hh⟩ := asSome_of hh
    obtain ⟨hm, rfl⟩ := ca.ref_of
    obtain ⟨vs, c, o1, p1⟩ := OC.at_list S el
    obtain ⟨xs, h1, h2⟩ := ints_pairs (p1.ints en)
    rw [Array.toArray_toList] at h1
    subst h1
    refine wpAny_with_size (sum_intListG R.hd (IsList.of o1) fun h' tk t' hk hz => ?_)
    rw [preSum_eq, List.take_of_length_le (by simp), h2]
    exact G _ _ _ _ (Po.ext S hk hz) (.p (.int _ _)) hh
  rw [if_neg e] at h; clear e
  by_cases e : id = "sorted"
  · rw [if_pos e] at h; subst e
    obtain ⟨m, rfl, hh⟩ := asRef_of h
    obtain ⟨l, el, h1, hh⟩ := asId_of hh
    obtain ⟨hm, rfl⟩ := ca.ref_of
    exact sorted_idict B R.hd S hm el h1 G hh
  rw [if_neg e] at h
  exact h.elim
end
end Mine

namespace Mine
open PySem PySem.W PySem.Calls PyProof.Rows

noncomputable def bmO (o : Option AO) (a : Str) : Option String := match o with
  | some o => (match o with
    | .list _ => if a = sn "append" then some "list.append" else if a = sn "pop" then some "list.pop" else none
    | .sdict _ => if a = sn "get" then some "dict.get" else none
    | _ => none)
  | none => none
noncomputable def bmP (x : PV) (a : Str) : Option String := match x with
  | .str _ => if a = sn "join" then some "str.join" else none
  | _ => none
noncomputable def bmeth (x : SV) (a : Str) (H : AH) : Option String := match x with
  | .ref m => bmO H[m]? a
  | .p x => bmP x a
  | _ => none
noncomputable def preM (id : String) (x : SV) (args : List SV) (H : AH) (K : Kv) : Prop :=
  if id = "list.append" then asRef x fun m => asCons args fun y r => r = [] ∧ asPV y fun y => asList H[m]? fun l => l.length ≤ sizeLine ∧ K (.p .none) (H.set m (.list (l ++ [y])))
  else if id = "list.pop" then asRef x fun m => args = [] ∧ asList H[m]? fun l => asSome l.getLast? fun y => l.length ≤ sizeLine ∧ K (.p y) (H.set m (.list l.dropLast))
  else if id = "dict.get" then asRef x fun m => asCons args fun y r => asStr y fun k => asCons r fun z q => q = [] ∧ asInt z fun d => asSd H[m]? fun l => K (.p (.int ((getK k l).getD d))) H
  else if id = "str.join" then asStr x fun a => asCons args fun y r => r = [] ∧ asRef y fun m => asList H[m]? fun l => asSome (strsOf l) fun ts => JoinOk a ts = true ∧ K (.p (.str (Txt.join a ts))) H
  else False
section
variable {prog : Program} {w : World} {h₀ : Heap} {A : Around} {E : Value → Shared → Prop} {s : Shared} {g : Sg} {K : Kv} {Q : Value → Shared → Prop} {n : Nat}
theorem t1_ok (R : Rm A n) {T : String} {x : SV} {a : Value} (h : preT1 T x g.H K) (S : St prog w h₀ s g) (ca : SC s.heap g.r g.H.length a x) (G : Gives prog w h₀ s g K Q) : wpAny (model prog w) A (call (.type T) [a]) Q E s := by
  unfold preT1 at h
  by_cases e : T = "int"
  · rw [if_pos e] at h; subst e
    obtain ⟨y, rfl, hh⟩ := asPV_of h
    cases y with
    | int i =>
      obtain ⟨t, rfl⟩ := ca.int_of
      exact call_int_int (G.same S (.p (.int _ _)) hh)
    | bool b =>
      obtain rfl := ca.bool_of
      exact call_int_bool (G.tok S _ (.p (.int _ _)) hh)
    | _ => exact (show False from hh).elim
  rw [if_neg e] at h; clear e
  by_cases e : T = "range"
  · rw [if_pos e] at h; subst e
    obtain ⟨i, rfl, hh⟩ := asInt_of h
    obtain ⟨t, rfl⟩ := ca.int_of
    exact call_range_1 (G _ _ _ _ (Po.push S _ _) (.rng (Heap.get?_push_size _ rfl)) hh)
  rw [if_neg e] at h; clear e
  by_cases e : T = "tuple"
  · rw [if_pos e] at h; subst e
    obtain ⟨m, rfl, hh⟩ := asRef_of h
    obtain ⟨l, el, h1, h2⟩ := asList_of hh
    obtain ⟨hm, rfl⟩ := ca.ref_of
    obtain ⟨vs, c, o1, p1⟩ := OC.at_list S el
    have l1 := p1.length
    rw [Array.length_toList] at l1
    refine wpAny_with_size (call_tuple_list (IsList.of o1) (fun h' hk hz => ?_) (by rw [l1]; exact h1))
    have hk' : ∀ b o, s.heap.get? b = some o → (h'.push { cls := .type "tuple", data := .seq vs }).get? b = some o := fun b o e => Heap.get?_push_of_some _ (hk b o e)
    exact G _ _ _ _ (Po.ext S (tk' := s.toks) hk' hz) (.p (.tup (Heap.get?_push_size _ rfl) rfl rfl (p1.mono fun b o e _z => hk' b o e))) h2
  rw [if_neg e] at h; clear e
  by_cases e : T = "bytes"
  · rw [if_pos e] at h; subst e
    obtain ⟨m, rfl, hh⟩ := asRef_of h
    obtain ⟨l, el, hh⟩ := asList_of hh
    obtain ⟨ns, en, h1, h2, h3⟩ := asSome_of hh
    obtain ⟨hm, rfl⟩ := ca.ref_of
    obtain ⟨vs, c, o1, p1⟩ := OC.at_list S el
    have l1 := p1.length
    refine wpAny_with_size (call_bytes_ints (vs := vs.toList) (by rw [Array.toArray_toList]; exact IsList.of o1) (p1.ints en) h1 (by rw [l1]; exact h2) R.hd fun h' t k hk hz => ?_)
    exact G _ _ _ _ (Po.ext S hk hz) (.p (.bytes _ _)) h3
  rw [if_neg e] at h; clear e
  by_cases e : T = "list"
  · rw [if_pos e] at h; subst e
    obtain ⟨b, rfl, h1, h2⟩ := asBytes_of h
    obtain ⟨t, rfl⟩ := ca.bytes_of
    exact list_bytes R.hd h1 S G h2
  rw [if_neg e] at h
  exact h.elim
theorem range2_ok {i j : Int} {a b : Value} (h : K (.rng i j) g.H) (S : St prog w h₀ s g) (ca : SC s.heap g.r g.H.length a (.p (.int i))) (cb : SC s.heap g.r g.H.length b (.p (.int j))) (G : Gives prog w h₀ s g K Q) :
    wpAny (model prog w) A (call (.type "range") [a, b]) Q E s := by
  obtain ⟨t, rfl⟩ := ca.int_of
  obtain ⟨u, rfl⟩ := cb.int_of
  exact call_range_2 (G _ _ _ _ (Po.push S _ _) (.rng (Heap.get?_push_size _ rfl)) h)
theorem bmeth_ok {x : SV} {a : Value} {nm : Str} {id : String} {pl : Sem Bool} {Q : Value × List Value → Shared → Prop} (h : bmeth x nm g.H = some id) (S : St prog w h₀ s g) (ca : SC s.heap g.r g.H.length a x) (hQ : Q (.builtin id, [a]) s) :
    wpAny (model prog w) A (getMethod a nm pl) Q E s := by
  cases x with
  | ref m =>
    have h : bmO g.H[m]? nm = some id := h
    obtain ⟨hm, rfl⟩ := ca.ref_of
    cases e : g.H[m]? with
    | none => rw [e] at h; cases h
    | some o => rw [e] at h; cases o with
      | list l =>
        obtain ⟨vs, c, o1, p1⟩ := OC.at_list S e
        have h : (if nm = sn "append" then some "list.append" else if nm = sn "pop" then some "list.pop" else none) = some id := h
        by_cases q : nm = sn "append"
        · rw [if_pos q] at h; subst q; cases h
          exact getMethod_builtin ⟨_, o1, rfl⟩ F.plainAttrs_list F.slot_list_append F.type_list_append (fun b e => by cases e; exact ⟨_, o1, rfl⟩) hQ
        · rw [if_neg q] at h
          by_cases q : nm = sn "pop"
          · rw [if_pos q] at h; subst q; cases h
            exact getMethod_builtin ⟨_, o1, rfl⟩ F.plainAttrs_list F.slot_list_pop F.type_list_pop (fun b e => by cases e; exact ⟨_, o1, rfl⟩) hQ
          · rw [if_neg q] at h; cases h
      | sdict l =>
        obtain ⟨kvs, hd, hv⟩ := S.obj _ _ e
        have h : (if nm = sn "get" then some "dict.get" else none) = some id := h
        by_cases q : nm = sn "get"
        · rw [if_pos q] at h; subst q; cases h
          exact getMethod_builtin hd.typeIs F.plainAttrs_dict F.slot_dict_get F.type_dict_get hd.mapOf.noDict hQ
        · rw [if_neg q] at h; cases h
      | _ => exact noS h
  | p x => cases x with
    | str x =>
      obtain ⟨t, rfl⟩ := ca.str_of
      have h : (if nm = sn "join" then some "str.join" else none) = some id := h
      by_cases q : nm = sn "join"
      · rw [if_pos q] at h; subst q; cases h
        exact getMethod_builtin rfl F.plainAttrs_str F.slot_str_join F.type_str_join (fun b e => by cases e) hQ
      · rw [if_neg q] at h; cases h
    | _ => exact noS h
  | _ => exact noS h
theorem m_ok {id : String} {x : SV} {args : List SV} {a : Value} {vs : List Value} (B : Bs w h₀) (h : preM id x args g.H K) (S : St prog w h₀ s g) (ca : SC s.heap g.r g.H.length a x) (cs : SCs s.heap g.r g.H.length vs args) (G : Gives prog w h₀ s g K Q) :
    wpAny (model prog w) A (call (.builtin id) (a :: vs)) Q E s := by
  unfold preM at h
  by_cases e : id = "list.append"
  · rw [if_pos e] at h; subst e
    obtain ⟨m, rfl, hh⟩ := asRef_of h
    obtain ⟨y, _, rfl, rfl, h2⟩ := asCons_of hh
    obtain ⟨y, rfl, h3⟩ := asPV_of h2
    obtain ⟨l, el, h4, h5⟩ := asList_of h3
    clear h hh h2 h3
    obtain ⟨hm, rfl⟩ := ca.ref_of
    obtain ⟨v, _, rfl, c1, cs⟩ := cs.uncons
    obtain rfl := cs.unnil
    have c1 := c1.pc_of
    obtain ⟨ws, c, o1, p1⟩ := OC.at_list S el
    have l1 := p1.length
    rw [Array.length_toList] at l1
    refine wpAny_list_append_plain ⟨_, o1⟩ (fun h' hl sb => ?_) (by rw [l1]; exact h4)
    obtain ⟨k', o2⟩ := hl
    have tk : TK s.heap h' := fun b ob eb cb => by
      by_cases q : b = g.r m
      · subst q; exact absurd cb ((S.obj m _ el).notTup eb (by intro z; cases z))
      · exact (sb.2 b q).trans eb
    refine G .none (.p .none) _ ⟨g.r, g.H.set m (.list (l ++ [y]))⟩ (Po.upd S (tk' := s.toks) el (by intro z; cases z) (by intro z; cases z) sb ⟨_, _, o2, ?_⟩) (.p .none) h5
    rw [Array.toList_push]
    exact (p1.append (.cons c1 .nil)).mono tk
  rw [if_neg e] at h; clear e
  by_cases e : id = "list.pop"
  · rw [if_pos e] at h; subst e
    obtain ⟨m, rfl, rfl, hh⟩ := asRef_of h
    obtain ⟨l, el, h2⟩ := asList_of hh
    obtain ⟨y, ey, h3, h4⟩ := asSome_of h2
    clear h hh h2
    obtain ⟨hm, rfl⟩ := ca.ref_of
    obtain rfl := cs.unnil
    obtain ⟨ws, c, o1, p1⟩ := OC.at_list S el
    have l1 := p1.length
    rw [Array.length_toList] at l1
    rw [List.getLast?_eq_getElem?] at ey
    obtain ⟨v, hv, pv⟩ := p1.get ey
    have hy : ws[ws.size - 1]? = some v := by rw [← Array.getElem?_toList, l1]; exact hv
    have hlt : ws.size - 1 < ws.size := (Array.getElem?_eq_some_iff.mp hy).1
    refine call_meets F.slot_list_pop ⟨_, o1, rfl⟩ F.entry_list_pop (F.args_list_pop_1 _) (MeetsSeq.list_pop_last _ ws c v hy (by rw [l1]; exact h3)) ⟨o1, ?_⟩
    have tk := S.tkUpd el (by intro z; cases z) (Obj.mapSeq fun xs => xs.eraseIdxIfInBounds (ws.size - 1))
    refine G v (.p y) _ ⟨g.r, g.H.set m (.list l.dropLast)⟩ (Po.upd S (tk' := s.toks) el (by intro z; cases z) (by intro z; cases z) (Heap.SameBut.update ..) ⟨_, _, PySem.IsL.update o1 _, ?_⟩) (.p (pv.mono tk)) h4
    have e1 : (ws.eraseIdxIfInBounds (ws.size - 1)).toList = ws.toList.dropLast := by
      unfold Array.eraseIdxIfInBounds
      rw [dif_pos hlt, Array.toList_eraseIdx, List.eraseIdx_eq_take_drop_succ, List.dropLast_eq_take, List.drop_eq_nil_of_le (by rw [Array.length_toList]; omega), List.append_nil, Array.length_toList]
    rw [e1, List.dropLast_eq_take, List.dropLast_eq_take, p1.length]
    exact (p1.take _).mono tk
  rw [if_neg e] at h; clear e
  by_cases e : id = "dict.get"
  · rw [if_pos e] at h; subst e
    obtain ⟨m, rfl, h1⟩ := asRef_of h
    obtain ⟨y, r, rfl, h2⟩ := asCons_of h1
    obtain ⟨k, rfl, h3⟩ := asStr_of h2
    obtain ⟨z, _, rfl, rfl, h4⟩ := asCons_of h3
    obtain ⟨d, rfl, h5⟩ := asInt_of h4
    obtain ⟨l, el, hh⟩ := asSd_of h5
    clear h h1 h2 h3 h4 h5
    obtain ⟨hm, rfl⟩ := ca.ref_of
    obtain ⟨v1, _, rfl, c1, cs⟩ := cs.uncons
    obtain ⟨v2, _, rfl, c2, cs⟩ := cs.uncons
    obtain rfl := cs.unnil
    obtain ⟨t, rfl⟩ := c1.str_of
    obtain ⟨u, rfl⟩ := c2.int_of
    obtain ⟨kvs, hd, hv⟩ := S.obj _ _ el
    refine call_meetsIn F.slot_dict_get hd.typeIs F.entry_dict_get (F.args_dict_get_3 _ _ _) (meets_dict_get_default (PySem.strKind prog w) (k := k) _ (by simp [PySem.strKind, Value.isStrOf]) (B.smNe (S.new _ hm)) _) ⟨_, hd.mapOf, ?_⟩
    have hf := hv.find (k := k)
    cases q : getK k l with
    | none =>
      rw [q] at hf hh
      rw [hf]
      exact G.tok S _ (.p (.int _ _)) hh
    | some i =>
      rw [q] at hf hh
      obtain ⟨t', e'⟩ := hf
      rw [e']
      exact G.tok S _ (.p (.int _ _)) hh
  rw [if_neg e] at h; clear e
  by_cases e : id = "str.join"
  · rw [if_pos e] at h; subst e
    obtain ⟨a', rfl, h1⟩ := asStr_of h
    obtain ⟨y, _, rfl, rfl, h2⟩ := asCons_of h1
    obtain ⟨m, rfl, h3⟩ := asRef_of h2
    obtain ⟨l, el, h4⟩ := asList_of h3
    obtain ⟨ts, et, h5, h6⟩ := asSome_of h4
    clear h h1 h2 h3 h4
    obtain ⟨t, rfl⟩ := ca.str_of
    obtain ⟨v1, _, rfl, c1, cs⟩ := cs.uncons
    obtain rfl := cs.unnil
    obtain ⟨hm, rfl⟩ := c1.ref_of
    obtain ⟨ws, c, o1, p1⟩ := OC.at_list S el
    obtain ⟨ps, h1, h2⟩ := p1.strs et
    exact PySem.SC.join (l := ps) (by rw [← h1, Array.toArray_toList]; exact IsList.of o1) h2 h5 fun t' k => G.tok S k (.p (.str _ _)) h6
  rw [if_neg e] at h
  exact h.elim
end
end Mine

namespace Mine
open PySem PySem.W PySem.Calls PyProof.Rows

noncomputable def partOf : SV → Option (Option Int)
  | .p .none => some none
  | .p (.int i) => some (some i)
  | _ => none
noncomputable def cutL {α : Type} (l : List α) (lo hi : Option Int) : List α := (l.drop (kms_lo lo l.length)).take (kms_hi hi l.length - kms_lo lo l.length)
noncomputable def cutP (x : PV) (lo hi : Option Int) (H : AH) (K : Kv) : Prop := match x with
  | .tup l => lo = none ∧ asSome hi fun b => 1 ≤ b ∧ b ≤ l.length ∧ l.length ≤ sizeLine ∧ K (.p (.tup (l.take b.toNat))) H
  | .bytes b => (KBy.picked b lo hi).size ≤ sizeLine ∧ K (.p (.bytes (KBy.picked b lo hi))) H
  | _ => False
noncomputable def preCut (x : SV) (lo hi : Option Int) (H : AH) (K : Kv) : Prop := match x with
  | .ref m => asList H[m]? fun l => l.length ≤ sizeLine ∧ K (.ref H.length) (H ++ [.list (cutL l lo hi)])
  | .p x => cutP x lo hi H K
  | _ => False
noncomputable def subT (o : Value) (s : Shared) : Prop := ∃ T id, typeLookup (.type T) "__getitem__" = pure (some (.builtin id)) ∧ s.TypeIs o T
section
variable {prog : Program} {w : World} {h₀ : Heap} {A : Around} {E : Value → Shared → Prop} {s : Shared} {g : Sg} {K : Kv} {Q : Value → Shared → Prop} {n : Nat} {env : Env}
theorem eval_sub (value slice : Expr) (pos : Pos) (env : Env) : eval (.Subscript value slice pos) env = (do
    let o ← eval value env
    let i ← holding [o] (eval slice env)
    standAt pos
    let r ← subscripted slice (← getitemInPython o) o i
    letTemporaryGo value o r
    pure r) := rfl
theorem subscripted_wp {slice : Expr} {o i : Value} (h : wpAny (model prog w) A (getItem o i) Q E s) : wpAny (model prog w) A (subscripted slice false o i) Q E s := by
  cases slice with
  | Slice l u st p => cases st <;> exact wpAny_operating h
  | _ => exact wpAny_operating h
theorem sub_any {value slice : Expr} {pos : Pos}
    (h : wpAny (model prog w) A (eval value env) (fun o s₁ => wpAny (model prog w) A (eval slice env) (fun i s₂ => subT o s₂ ∧ wpAny (model prog w) A (getItem o i) Q E s₂) E s₁) E s) :
    wpAny (model prog w) A (eval (.Subscript value slice pos) env) Q E s := by
  rw [eval_sub]
  refine wpAny_bind (wpAny_mono h (fun o s₁ h₁ => wpAny_bind (wpAny_holding (wpAny_mono h₁ (fun i s₂ h₂ => wpAny_bind (wpAny_standAt ?_)) fun _z _z x => x))) fun _z _z x => x)
  obtain ⟨⟨T, id, hl, hT⟩, hg⟩ := h₂
  have fin : wpAny (model prog w) A (subscripted slice false o i) (fun r s₃ => wpAny (model prog w) A (letTemporaryGo value o r >>= fun _z => pure r) Q E s₃) E s₂ :=
    subscripted_wp (wpAny_mono hg (fun r s₃ h₃ => wpAny_bind (wpAny_letTemporaryGo (wpAny_pure h₃))) fun _z _z x => x)
  refine wpAny_bind ?_
  unfold getitemInPython
  refine wpAny_bind (wpAny_specialOf hT hl ?_)
  exact wpAny_pure (wpAny_bind fin)
theorem SC.subT (S : St prog w h₀ s g) {x i : SV} {a : Value} (h : preGet x i g.H K) (ca : SC s.heap g.r g.H.length a x) : subT a s := by
  cases x with
  | ref m =>
    obtain ⟨k, _, hh⟩ := asInt_of h
    obtain ⟨hm, rfl⟩ := ca.ref_of
    cases e : g.H[m]? with
    | none => rw [e] at hh; exact (show False from hh).elim
    | some o => rw [e] at hh; cases o with
      | list l =>
        obtain ⟨vs, c, o1, p1⟩ := OC.at_list S e
        exact ⟨_, _, slot_list_getitem.lookup, ⟨_, o1, rfl⟩⟩
      | idict l =>
        obtain ⟨kvs, hd, hv⟩ := S.obj _ _ e
        exact ⟨_, _, slot_dict_getitem.lookup, hd.typeIs⟩
      | _ => exact (show False from hh).elim
  | p x =>
    obtain ⟨k, _, hh⟩ := asInt_of h
    cases x with
    | tup l =>
      obtain ⟨_, _, _, _, rfl, e, c, d, q⟩ := ca.tup_of
      exact ⟨_, _, slot_tuple_getitem.lookup, ⟨_, e, c⟩⟩
    | str _ =>
      obtain ⟨t, rfl⟩ := ca.str_of
      exact ⟨_, _, F.slot_str_getitem.lookup, rfl⟩
    | bytes _ =>
      obtain ⟨t, rfl⟩ := ca.bytes_of
      exact ⟨_, _, FB.slot_bytes_getitem.lookup, rfl⟩
    | _ => exact (show False from hh).elim
  | _ => exact (show False from h).elim
theorem SC.cutT (S : St prog w h₀ s g) {x : SV} {lo hi : Option Int} {a : Value} (h : preCut x lo hi g.H K) (ca : SC s.heap g.r g.H.length a x) : Mine.subT a s := by
  cases x with
  | ref m =>
    obtain ⟨l, e, _⟩ := asList_of h
    obtain ⟨hm, rfl⟩ := ca.ref_of
    obtain ⟨vs, c, o1, p1⟩ := OC.at_list S e
    exact ⟨_, _, slot_list_getitem.lookup, ⟨_, o1, rfl⟩⟩
  | p x => cases x with
    | tup l =>
      obtain ⟨_, _, _, _, rfl, e, c, d, q⟩ := ca.tup_of
      exact ⟨_, _, slot_tuple_getitem.lookup, ⟨_, e, c⟩⟩
    | bytes _ =>
      obtain ⟨t, rfl⟩ := ca.bytes_of
      exact ⟨_, _, FB.slot_bytes_getitem.lookup, rfl⟩
    | _ => exact (show False from h).elim
  | _ => exact (show False from h).elim
theorem SC.part {h : Heap} {r : Nat → Addr} {N : Nat} {v : Value} {x : SV} {lo : Option Int} (c : SC h r N v x) (e : partOf x = some lo) : IsPart v lo := by
  cases c with
  | p c => cases c with
    | none => cases e; exact .none
    | int => cases e; exact .int _ _
    | _ => cases e
  | _ => cases e
theorem sliceApplied_upto {sl : Addr} {b k : Nat} {u : Tok} {Q : Int × Int × Nat → Shared → Prop} (hs : s.heap.IsSliceOf sl .none (.int b u) .none) (hb : b ≤ k) (h : Q ((0 : Int), 1, b) s) :
    wpAny (model prog w) A (Builtin.Slice.sliceApplied (.ref sl) (pure (k : Int))) Q E s := by
  obtain ⟨os, hos, hcs, hds⟩ := id hs
  unfold Builtin.Slice.sliceApplied Builtin.Slice.sliceFields
  refine wpAny_bind (wpAny_bind (wpAny_field hos hds (x := .none) rfl (wpAny_bind (wpAny_field hos hds (x := .int b u) rfl (wpAny_bind (wpAny_field hos hds (x := .none) rfl (wpAny_pure ?_)))))))
  refine wpAny_bind (slicePart_none ?_)
  show wpAny _ _ (if ((1 : Int) == 0) = true then _ else _) _ _ s
  rw [if_neg (by decide)]
  refine wpAny_bind (slicePart_none (wpAny_bind (slicePart_int (wpAny_bind (wpAny_pure ?_)))))
  have e1 : Builtin.Slice.sliceAdjust none (some (b : Int)) 1 (k : Int) = ((0 : Int), (b : Int)) := by
    unfold Builtin.Slice.sliceAdjust
    have h1 : ¬ ((1 : Int) < 0) := by omega
    have h2 : ¬ ((b : Int) < 0) := by omega
    simp only [h1, h2, if_false]
    congr 1
    omega
  have e2 : Builtin.Slice.slicePlaces (0 : Int) (b : Int) 1 = b := by
    unfold Builtin.Slice.slicePlaces
    have h1 : (1 : Int) > 0 := by omega
    simp only [h1, if_true, Int.ediv_one]
    split <;> omega
  show wpAny _ _ (match Builtin.Slice.sliceAdjust none (some (b : Int)) 1 (k : Int) with | (lo, hi) => pure (lo, (1 : Int), Builtin.Slice.slicePlaces lo hi 1)) _ _ s
  rw [e1]
  show wpAny _ _ (pure ((0 : Int), (1 : Int), Builtin.Slice.slicePlaces (0 : Int) (b : Int) 1)) _ _ s
  rw [e2]
  exact wpAny_pure h
theorem take_pick (xs : Array Value) : ∀ b : Nat, b ≤ xs.size → (List.range b).filterMap (fun (k : Nat) => xs[((0 : Int) + (k : Int) * 1).toNat]?) = xs.toList.take b
  | 0, _ => rfl
  | b + 1, h => by
    rw [List.range_succ, List.filterMap_append, take_pick xs b (by omega), List.take_succ]
    congr 1
    have : ((0 : Int) + (b : Int) * 1).toNat = b := by omega
    simp only [List.filterMap_cons, List.filterMap_nil, this, Array.getElem?_toList]
    cases xs[b]? <;> rfl
theorem tuple_upto {t sl : Addr} {items : Array Value} {b : Nat} {u : Tok} (ht : IsTup s.heap t items) (hs : s.heap.IsSliceOf sl .none (.int b u) .none) (hb : b ≤ items.size) (hsz : items.size ≤ sizeLine)
    (h1 : b = items.size → Q (.ref t) s) (h2 : Q (.ref s.heap.objs.size) { s with heap := s.heap.push { cls := .type "tuple", data := .seq (items.toList.take b).toArray } }) :
    wpAny (model prog w) A (getItem (.ref t) (.ref sl)) Q E s := by
  have hz : sizeOk (.seq (items.toList.take b).toArray) := by
    show (items.toList.take b).toArray.size ≤ sizeLine
    rw [List.size_toArray, List.length_take, Array.length_toList]
    omega
  obtain ⟨os, hos, hcs, hds⟩ := id hs
  have hTs : s.TypeIs (.ref sl) "slice" := ⟨os, hos, hcs⟩
  unfold getItem
  try with_reducible refine wpAny_holding ?_
  first | refine wpAny_bind (wpAny_pure ?_) | skip
  refine wpAny_bind (wpAny_sequenceKey ht.typeIs (by decide) ?_)
  refine wpAny_bind (wpAny_callSpecial?_slot (name := Str.ofString "__getitem__") ht.typeIs slot_tuple_getitem (wpAny_call_entry slot_tuple_getitem ht.typeIs entry_tuple_getitem ?_ (args_tuple_getitem _ _)))
  show wpAny _ _ (Builtin.Tuple.tupleItemsOf (.ref t) >>= _) _ _ s
  refine wpAny_bind (tupleItemsOf_ ht ?_)
  refine wpAny_bind (wpAny_typeOf hTs ?_)
  rw [if_pos (by decide)]
  refine wpAny_bind (sliceApplied_upto hs hb ?_)
  show wpAny _ _ (if ((0 : Int) == 0 && (1 : Int) == 1 && b == items.size) = true then _ else _) _ _ s
  by_cases hw : b = items.size
  · rw [if_pos (by simp [hw])]
    refine wpAny_bind (m := Builtin.Tuple.tupleIsExact _) ?_
    unfold Builtin.Tuple.tupleIsExact
    refine wpAny_bind (wpAny_typeOf ht.typeIs (wpAny_pure ?_))
    rw [if_pos (by decide)]
    exact wpAny_bind (wpAny_rule (wpAny_pure ⟨_, rfl, wpAny_pure (h1 hw)⟩))
  · rw [if_neg (by simp [hw])]
    dsimp only
    rw [take_pick items b hb]
    exact wpAny_bind (m := Builtin.Tuple.tupleExact _) (wpAny_newObj_type (wpAny_pure ⟨_, rfl, wpAny_pure h2⟩) hz)
theorem cut_ok {x : SV} {lo hi : Option Int} {a vl vu : Value} (h : preCut x lo hi g.H K) (S : St prog w h₀ s g) (ca : SC s.heap g.r g.H.length a x) (pl : IsPart vl lo) (pu : IsPart vu hi) (G : Gives prog w h₀ s g K Q) :
    wpAny (model prog w) A (getItem a (.ref s.heap.objs.size)) Q E { s with heap := s.heap.push { cls := .type "slice", data := .fields #[vl, vu, .none] } } := by
  have keep : ∀ b o, s.heap.get? b = some o → (s.heap.push { cls := .type "slice", data := .fields #[vl, vu, .none] }).get? b = some o := fun b o e => Heap.get?_push_of_some _ e
  have P0 : Po prog w h₀ s g { s with heap := s.heap.push { cls := .type "slice", data := .fields #[vl, vu, .none] } } g NoX := Po.push S _ s.toks
  have sl : (s.heap.push { cls := .type "slice", data := .fields #[vl, vu, .none] }).IsSliceOf s.heap.objs.size vl vu .none := Heap.IsSliceOf.new _ _ _ _
  have G' : Gives prog w h₀ { s with heap := s.heap.push { cls := .type "slice", data := .fields #[vl, vu, .none] } } g K Q := fun v sv s' g' P c k => G v sv s' g' (P0.trans' P) c k
  have S' := P0.st
  have ca' := P0.sc ca
  cases x with
  | ref m =>
    obtain ⟨l, e, h1, hh⟩ := asList_of h
    obtain ⟨hm, rfl⟩ := ca'.ref_of
    obtain ⟨vs, c, o1, p1⟩ := OC.at_list S' e
    have l1 := p1.length
    rw [Array.length_toList] at l1
    refine wpAny_getItem_list_slice (IsList.of o1) sl pl pu .none (by simp) (G'.pushList S' (tk := s.toks) ?_ hh) (by rw [l1]; exact h1)
    rw [kms_pick_eq]
    show PCs _ (kms_pick vs.toList lo hi) _
    unfold kms_pick cutL
    rw [p1.length]
    exact (p1.drop _).take _
  | p x => cases x with
    | tup l =>
      obtain ⟨rfl, hh⟩ : lo = none ∧ _ := h
      obtain ⟨b, rfl, h0, h1, h2, hh⟩ := asSome_of hh
      cases pl with | none => cases pu with | int _ u =>
      obtain ⟨_, _, _, _, rfl, e, c, d, q⟩ := ca'.tup_of
      obtain ⟨j, rfl⟩ := Int.eq_ofNat_of_zero_le (show 0 ≤ b by omega)
      have l1 := q.length
      rw [Array.length_toList] at l1
      refine tuple_upto ⟨_, e, c, _, d⟩ sl (by omega) (by omega) (fun hw => ?_) ?_
      · refine G'.same S' (.p (.tup e c d ?_)) hh
        rw [Int.toNat_natCast, List.take_of_length_le (by omega)]
        exact q
      · refine G' _ (.p (.tup (List.take j _))) _ g (Po.push S' _ s.toks) (.p (.tup (Heap.get?_push_size _ rfl) rfl rfl ?_)) (by simpa using hh)
        exact (q.take j).mono fun b o e _z => Heap.get?_push_of_some _ e
    | bytes _ =>
      obtain ⟨t, rfl⟩ := ca'.bytes_of
      exact getItem_meets (typeIs_bytes _ _ _) (by decide) FB.slot_bytes_getitem FB.entry_bytes_getitem (FB.args_bytes_getitem_2 _ _) (KBc.meets_slice2 _ t _ pl pu) ⟨sl, h.1, fun t' k => G'.tok S' k (.p (.bytes _ _)) h.2⟩
    | _ => exact (show False from h).elim
  | _ => exact (show False from h).elim
end
end Mine

namespace Mine
open PySem PySem.W PySem.Calls PyProof.Rows

noncomputable abbrev CT := List SV → AH → Kv → Prop
structure Cx where
  N : List (Str × NameKind)
  U : List (Str × SV)
  F : List Str
  Γ : List (Addr × CT)
noncomputable def lkC (a : Addr) : List (Addr × CT) → Option CT
  | [] => none
  | (b, c) :: r => if b = a then some c else lkC a r
theorem lkC_e2 {a b : Addr} {c : CT} {r : List (Addr × CT)} : lkC a ((b, c) :: r) = if b = a then some c else lkC a r := rfl
noncomputable def reachF (H : AH) : Nat → List Nat → List Nat → List Nat
  | 0, _, acc => acc
  | _ + 1, [], acc => acc
  | n + 1, a :: r, acc => if acc.contains a = true then reachF H n r acc else reachF H n ((match H[a]? with | some o => o.refs | none => []) ++ r) (acc ++ [a])
theorem reachF_e {H : AH} {n a : Nat} {r acc : List Nat} : reachF H (n + 1) (a :: r) acc = if acc.contains a = true then reachF H n r acc else reachF H n ((match H[a]? with | some o => o.refs | none => []) ++ r) (acc ++ [a]) := rfl
noncomputable def callL (L : List Nat) (ct : CT) (args : List SV) (H : AH) (K : Kv) : Prop :=
  closed L H = true ∧ subN (SV.refss args) L = true ∧ ct (SV.maps (ix L) args) (sel L H) fun v Hc => K (v.map (unr L H.length)) (wb L H Hc)
noncomputable def callC (ct : CT) (args : List SV) (H : AH) (K : Kv) : Prop := callL (reachF H 60 (SV.refss args) []) ct args H K
noncomputable def asRawT (x : SV) (k : String → Prop) : Prop := match x with
  | .raw v => (match v with
    | .type T => k T
    | _ => False)
  | _ => False
theorem asRawT_of {x : SV} {k : String → Prop} (h : asRawT x k) : ∃ T, x = .raw (.type T) ∧ k T := by
  cases x with
  | raw v => cases v with
    | type T => exact ⟨T, rfl, h⟩
    | _ => exact (show False from h).elim
  | _ => exact (show False from h).elim
noncomputable def funB (id : String) (args : List SV) (H : AH) (K : Kv) : Prop := match args with
  | [] => False
  | x :: r => (match r with
    | [] => preB1 id x H K
    | y :: r => r = [] ∧ asRawT y fun T => id = "isinstance" ∧ preIsi x T fun b => K (.p (.bool b)) H)
noncomputable def funT (T : String) (args : List SV) (H : AH) (K : Kv) : Prop := match args with
  | [] => False
  | x :: r => (match r with
    | [] => preT1 T x H K
    | y :: r => r = [] ∧ asInt x fun a => asInt y fun b => T = "range" ∧ K (.rng a b) H)
noncomputable def wpFun (cx : Cx) (f : SV) (args : List SV) (H : AH) (K : Kv) : Prop := match f with
  | .raw v => (match v with
    | .ref a => asSome (lkC a cx.Γ) fun ct => callC ct args H K
    | .builtin id => funB id args H K
    | .type T => funT T args H K
    | _ => False)
  | _ => False
noncomputable def knownC (cx : Cx) (f : SV) : Bool := match f with
  | .raw (.ref a) => (lkC a cx.Γ).isSome
  | .raw (.builtin _) => true
  | .raw (.type _) => true
  | _ => false
noncomputable def allP : List SV → Option (List PV)
  | [] => some []
  | .p x :: r => (allP r).map (x :: ·)
  | _ => none
noncomputable def mkTup (l : List SV) : SV := match allP l with
  | some ps => .p (.tup ps)
  | none => .tup l
noncomputable def constK (c : Const) (K : PV → Prop) : Prop := match c with
  | .int i => K (.int i)
  | .str x => K (.str x)
  | .bool b => K (.bool b)
  | .none => K .none
  | _ => False
noncomputable def notSet : Expr → Bool
  | .Set .. => false
  | .Starred .. => false
  | _ => true
noncomputable def plainArgs (l : List Expr) : Bool := decide (l.length < 25) && l.all notSet
noncomputable abbrev Ev1 := Expr → AH → Kv → Prop
noncomputable abbrev Tv1 := Expr → AH → (Bool → AH → Prop) → Prop
noncomputable def evs (E : Ev1) : List Expr → AH → (List SV → AH → Prop) → Prop
  | [], H, K => K [] H
  | e :: r, H, K => notSet e = true ∧ E e H fun v H1 => evs E r H1 fun vs H2 => K (v :: vs) H2
noncomputable def chainK (E : Ev1) : SV → List CmpOp → List Expr → AH → (Bool → AH → Prop) → Prop
  | _, [], _, _, _ => False
  | a, op :: ops, rs, H, K => (match rs with
    | [] => False
    | r :: rs => (match ops with
      | [] => rs = [] ∧ E r H fun b H1 => preCmp op a b H1 fun c => K c H1
      | _ :: _ => E r H fun b H1 => preCmp op a b H1 fun c => if c = true then chainK E b ops rs H1 K else K false H1))
noncomputable def boolK (E : Ev1) (op : BoolOp) : List Expr → AH → Kv → Prop
  | [], _, _ => False
  | [x], H, K => E x H K
  | x :: r, H, K => E x H fun v H1 => match v with
    | .p (.bool b) => if b = (op == .Or) then K v H1 else boolK E op r H1 K
    | _ => False
noncomputable def boolT (T : Tv1) (op : BoolOp) : List Expr → AH → (Bool → AH → Prop) → Prop
  | [], H, K => K (op == .And) H
  | x :: r, H, K => T x H fun b H1 => if b = (op == .Or) then K b H1 else boolT T op r H1 K
theorem boolT_e {T : Tv1} {op : BoolOp} {x : Expr} {r : List Expr} {H : AH} {K : Bool → AH → Prop} : boolT T op (x :: r) H K = T x H fun b H1 => if b = (op == .Or) then K b H1 else boolT T op r H1 K := rfl
noncomputable def partK (E : Ev1) (x : Option Expr) (H : AH) (K : Kv) : Prop := match x with
  | none => K (.p .none) H
  | some e => E e H K
noncomputable def pairK (E : Ev1) : List (Option Expr) → List Expr → AH → (List (Int × Int) → AH → Prop) → Prop
  | [], vs, H, K => vs = [] ∧ K [] H
  | k :: ks, vs, H, K => (match vs with
    | [] => False
    | v :: vs => asSome k fun k => E k H fun a H1 => E v H1 fun b H2 => asInt a fun i => asInt b fun j => pairK E ks vs H2 fun l H3 => K ((i, j) :: l) H3)
noncomputable def dictShape (ks : List (Option Expr)) (vs : List Expr) : Bool := decide (ks.length ≤ 15) && !ks.isEmpty && ks.all Option.isSome && ks.length == vs.length
noncomputable def dictOfPairs (l : List (Int × Int)) : List (Int × Int) := l.foldl (fun d e => setK e.1 e.2 d) []
noncomputable def chars (x : Str) : List PV := x.cps.toList.map fun c => .str ⟨#[c]⟩
noncomputable def rangeL (a b : Int) : List PV := (List.range (b - a).toNat).map fun (i : Nat) => .int (a + i)
noncomputable def itemsOf (x : SV) (H : AH) : Option (List PV) := match x with
  | .ref m => (match H[m]? with
    | some (.list l) => some l
    | _ => none)
  | .p (.tup l) => some l
  | .p (.str a) => some (chars a)
  | .rng a b => if -(2 ^ 40) ≤ a ∧ a ≤ b ∧ b ≤ 2 ^ 40 then some (rangeL a b) else none
  | _ => none
noncomputable def hideS (x : SV) (H : AH) : AH := match x with
  | .ref m => H.set m .hid
  | _ => H
noncomputable def showS (x : SV) (l : List PV) (H : AH) : AH := match x with
  | .ref m => H.set m (.list l)
  | _ => H
noncomputable def compK (E : Cx → Vars → Ev1) (T : Cx → Vars → Tv1) (cx : Cx) (vars : Vars) (x : Str) (ifs : List Expr) (elt : Expr) : List PV → List PV → AH → (List PV → AH → Prop) → Prop
  | [], acc, H, K => K acc H
  | i :: r, acc, H, K => boolT (T cx (put x (.p i) vars)) .And ifs H fun b H1 => if b = true then E cx (put x (.p i) vars) elt H1 fun v H2 => asPV v fun y => acc.length ≤ 2 ^ 20 ∧ compK E T cx vars x ifs elt r (acc ++ [y]) H2 K
    else compK E T cx vars x ifs elt r acc H1 K
theorem compK_e {E : Cx → Vars → Ev1} {T : Cx → Vars → Tv1} {cx : Cx} {vars : Vars} {x : Str} {ifs : List Expr} {elt : Expr} {i : PV} {r acc : List PV} {H : AH} {K : List PV → AH → Prop} : compK E T cx vars x ifs elt (i :: r) acc H K = boolT (T cx (put x (.p i) vars)) .And ifs H fun b H1 => if b = true then E cx (put x (.p i) vars) elt H1 fun v H2 => asPV v fun y => acc.length ≤ 2 ^ 20 ∧ compK E T cx vars x ifs elt r (acc ++ [y]) H2 K else compK E T cx vars x ifs elt r acc H1 K := rfl
noncomputable def freeV (sc : Scope) (vars : Vars) : Vars := vars.filter fun e => sc.names.lookup e.1 == some .free
noncomputable def freeN (sc : Scope) : List Str := (sc.names.filter fun e => e.2 == .free).map (·.1)
noncomputable def subS (l L : List Str) : Bool := match l with
  | [] => true
  | a :: r => L.contains a && subS r L
noncomputable def cxC (cx : Cx) (sc : Scope) : Cx := ⟨sc.names, cx.U, freeN sc, cx.Γ⟩
noncomputable def compOk (sc : Scope) (x : Str) : Bool := sc.kind == .function && (sc.names.lookup (sn "__debug__")).isNone && (sc.names.lookup (sn "__classdict__")).isNone && sc.names.lookup x == some .local && sc.names.all fun e => sc.names.lookup e.1 == some e.2 && (e.2 == .local || e.2 == .free || e.2 == .globalImplicit)
noncomputable def nameK (cx : Cx) (vars : Vars) (x : Str) (H : AH) (K : Kv) : Prop := match lk x vars with
  | some sv => K sv H
  | none => (match lk x cx.U with
    | some sv => (cx.N.lookup x == some .globalImplicit) = true ∧ K sv H
    | none => False)
noncomputable def slice? : Expr → Option (Option Expr × Option Expr × Option Expr)
  | .Slice lo hi st _ => some (lo, hi, st)
  | _ => none
noncomputable def attr? : Expr → Option (Expr × Str × Pos)
  | .Attribute o nm ap => some (o, nm, ap)
  | _ => none
noncomputable def name? : Expr → Option Str
  | .Name x _ => some x
  | _ => none
theorem slice_of {e : Expr} {lo hi st : Option Expr} (h : slice? e = some (lo, hi, st)) : ∃ p, e = .Slice lo hi st p := by
  cases e with
  | Slice a b c p => cases h; exact ⟨p, rfl⟩
  | _ => exact noS h
theorem attr_of {e o : Expr} {nm : Str} {ap : Pos} (h : attr? e = some (o, nm, ap)) : e = .Attribute o nm ap := by
  cases e with
  | Attribute a b c => cases h; rfl
  | _ => exact noS h
theorem name_of {e : Expr} {x : Str} (h : name? e = some x) : ∃ p, e = .Name x p := by
  cases e with
  | Name a p => cases h; exact ⟨p, rfl⟩
  | _ => exact noS h
noncomputable def noSuper (e : Expr) : Bool := match e with
  | .Call f args kws _ => (match name? f with
    | some _ => !(args.isEmpty && kws.isEmpty)
    | none => true)
  | _ => true
noncomputable def unK (op : UnaryOp) (a : SV) (H : AH) (K : Kv) : Prop := match op with
  | .USub => (match a with
    | .p (.int i) => K (.p (.int (-i))) H
    | _ => False)
  | .Not => (match a with
    | .p (.bool b) => K (.p (.bool (!b))) H
    | _ => False)
  | _ => False
noncomputable def listK (vs : List SV) (H : AH) (K : Kv) : Prop := match allP vs with
  | some ps => Nat.ble ps.length 1000 = true ∧ K (.ref H.length) (H ++ [.list ps])
  | none => False
noncomputable def dictK (E : Ev1) (ks : List (Option Expr)) (vs : List Expr) (H : AH) (K : Kv) : Prop := match ks with
  | [] => (match vs with
    | [] => K (.ref H.length) (H ++ [.sdict []])
    | _ :: _ => False)
  | k :: r => dictShape (k :: r) vs = true ∧ pairK E (k :: r) vs H fun l H1 => K (.ref H1.length) (H1 ++ [.idict (dictOfPairs l)])
noncomputable def cutK (o l u : SV) (H : AH) (K : Kv) : Prop := match partOf l with
  | some lo => (match partOf u with
    | some hi => preCut o lo hi H K
    | none => False)
  | none => False
noncomputable def subK (E : Ev1) (v i : Expr) (H : AH) (K : Kv) : Prop := match slice? i with
  | some (lo, hi, none) => E v H fun o H1 => partK E lo H1 fun l H2 => partK E hi H2 fun u H3 => cutK o l u H3 K
  | some (_, _, some _) => False
  | none => E v H fun o H1 => E i H1 fun k H2 => preGet o k H2 K
noncomputable def methK (cx : Cx) (E : Ev1) (nm : Str) (args : List Expr) (ov : SV) (H1 : AH) (K : Kv) : Prop := match preMeth ov nm H1 with
  | some f => knownC cx (.raw (.ref f)) = true ∧ evs E args H1 fun vs H2 => wpFun cx (.raw (.ref f)) (ov :: vs) H2 K
  | none => (match bmeth ov nm H1 with
    | some id => evs E args H1 fun vs H2 => preM id ov vs H2 K
    | none => False)
noncomputable def callK (cx : Cx) (E : Ev1) (f : Expr) (args : List Expr) (pos : Pos) (H : AH) (K : Kv) : Prop := match attr? f with
  | some (o, nm, ap) => noSuper o = true ∧ plainArgs args = true ∧ (ap.endLine == pos.line) = true ∧ E o H fun ov H1 => methK cx E nm args ov H1 K
  | none => plainArgs args = true ∧ E f H fun fv H1 => knownC cx fv = true ∧ evs E args H1 fun vs H2 => wpFun cx fv vs H2 K
noncomputable def lcK (E : Cx → Vars → Ev1) (T : Cx → Vars → Tv1) (cx : Cx) (vars : Vars) (elt : Expr) (g : Comprehension) (sc : Scope) (H : AH) (K : Kv) : Prop := match name? g.target with
  | some x => decide (g.is_async = 0) = true ∧ notSet g.iter = true ∧ compOk sc x = true ∧ subS (freeN sc) cx.F = true ∧ E cx vars g.iter H fun it H1 => ∃ l, itemsOf it H1 = some l ∧ compK E T (cxC cx sc) (freeV sc vars) x g.ifs elt l [] (hideS it H1) fun acc H2 => K (.ref (showS it l H2).length) (showS it l H2 ++ [.list acc])
  | none => False
noncomputable def stepE (E : Cx → Vars → Ev1) (T : Cx → Vars → Tv1) (cx : Cx) (vars : Vars) (e : Expr) (H : AH) (K : Kv) : Prop := match e with
  | .Constant c _ _ => constK c fun v => K (.p v) H
  | .Name x _ => nameK cx vars x H K
  | .BinOp l op r _ => E cx vars l H fun a H1 => E cx vars r H1 fun b H2 => preBin op a b H2 K
  | .UnaryOp op x _ => E cx vars x H fun a H1 => unK op a H1 K
  | .BoolOp op xs _ => boolK (E cx vars) op xs H K
  | .Compare l ops rs _ => rs.all notSet = true ∧ E cx vars l H fun a H1 => chainK (E cx vars) a ops rs H1 fun b H2 => K (.p (.bool b)) H2
  | .IfExp t a b _ => T cx vars t H fun c H1 => if c = true then E cx vars a H1 K else E cx vars b H1 K
  | .Tuple es _ _ => evs (E cx vars) es H fun vs H1 => Nat.ble vs.length 1000 = true ∧ K (mkTup vs) H1
  | .List es _ => evs (E cx vars) es H fun vs H1 => listK vs H1 K
  | .Dict ks vs _ => dictK (E cx vars) ks vs H K
  | .Attribute v a _ => noSuper v = true ∧ E cx vars v H fun o H1 => preAttr o a H1 K
  | .Subscript v i _ => subK (E cx vars) v i H K
  | .Call f args kws pos => (match kws with
    | [] => callK cx (E cx vars) f args pos H K
    | _ :: _ => False)
  | .ListComp elt gs sc _ => (match gs with
    | [] => False
    | g :: r => (match r with
      | [] => lcK E T cx vars elt g sc H K
      | _ :: _ => False))
  | _ => False
noncomputable def boolV (v : SV) (H : AH) (K : Bool → AH → Prop) : Prop := match v with
  | .p (.bool b) => K b H
  | _ => False
noncomputable def stepT (E : Cx → Vars → Ev1) (T : Cx → Vars → Tv1) (cx : Cx) (vars : Vars) (e : Expr) (H : AH) (K : Bool → AH → Prop) : Prop := match e with
  | .UnaryOp op x p => (match op with
    | .Not => T cx vars x H fun b H1 => K (!b) H1
    | op => E cx vars (.UnaryOp op x p) H fun v H1 => boolV v H1 K)
  | .BoolOp op xs _ => boolT (T cx vars) op xs H K
  | .IfExp t a b _ => T cx vars t H fun c H1 => if c = true then T cx vars a H1 K else T cx vars b H1 K
  | .Compare l ops rs _ => rs.all notSet = true ∧ E cx vars l H fun a H1 => chainK (E cx vars) a ops rs H1 K
  | e => E cx vars e H fun v H1 => boolV v H1 K
noncomputable def wpET : Nat → (Cx → Vars → Ev1) × (Cx → Vars → Tv1)
  | 0 => (fun _z _z _z _z _z => False, fun _z _z _z _z _z => False)
  | n + 1 => (stepE (wpET n).1 (wpET n).2, stepT (wpET n).1 (wpET n).2)
noncomputable def wpE (n : Nat) : Cx → Vars → Ev1 := (wpET n).1
noncomputable def wpT (n : Nat) : Cx → Vars → Tv1 := (wpET n).2
theorem wpE_succ (n : Nat) (cx : Cx) (vars : Vars) (e : Expr) (H : AH) (K : Kv) : wpE (n + 1) cx vars e H K = stepE (wpE n) (wpT n) cx vars e H K := rfl
theorem wpT_succ (n : Nat) (cx : Cx) (vars : Vars) (e : Expr) (H : AH) (K : Bool → AH → Prop) : wpT (n + 1) cx vars e H K = stepT (wpE n) (wpT n) cx vars e H K := rfl
end Mine

namespace Mine
open PySem PySem.W PySem.Calls PyProof.Rows

section
variable (prog : Program) (w : World) (h₀ : Heap)
structure Sound (a : Addr) (lev : Nat) (ct : CT) : Prop where
  kp : (∃ o fd, h₀.get? a = some o ∧ o.data = .func fd) ∨ (∀ (A : Around) (s : Shared) (Q : Keeper → Shared → Prop) (E : Value → Shared → Prop), (∀ b o, h₀.get? b = some o → s.heap.get? b = some o) → Q .machine s → wpAny (model prog w) A (keeperOf (.ref a)) Q E s)
  run : ∀ (A : Around) (s : Shared) (g : Sg) (vs : List Value) (args : List SV) (K : Kv) (R : Result → Shared → Prop), Rm A lev → St prog w h₀ s g → SCs s.heap g.r g.H.length vs args → ct args g.H K →
    (∀ v sv s' g', Po prog w h₀ s g s' g' NoX → SC s'.heap g'.r g'.H.length v sv → K sv g'.H → R (.ok (.ret v)) s') → codeAny (model prog w) A (.call (.ref a) ⟨vs, []⟩) R s
structure CxOk (lev : Nat) (cx : Cx) (env : Env) : Prop where
  g : ∀ x, cx.N.lookup x = some .globalImplicit → env.kindOf x = some .globalImplicit
  u : ∀ x sv, lk x cx.U = some sv → lk x gsv = some sv
  f : ∀ x, x ∈ cx.F → (env.kindOf x = some .cell ∨ env.kindOf x = some .free) ∧ ∃ c, env.cells.lookup x = some c
  dn : env.kindOf (sn "__debug__") = none ∧ env.kindOf (sn "__classdict__") = none
  γ : ∀ a ct, lkC a cx.Γ = some ct → Sound prog w h₀ a lev ct
noncomputable def EOk (lev n : Nat) : Prop := ∀ (A : Around) (env : Env) (cx : Cx) (vars : Vars) (e : Expr) (s : Shared) (g : Sg) (K : Kv) (Q : Value → Shared → Prop) (E : Value → Shared → Prop),
  Rm A (lev + 1) → CxOk prog w h₀ lev cx env → St prog w h₀ s g → Fe h₀ env vars s g → wpE n cx vars e g.H K → Gives prog w h₀ s g K Q → wpAny (model prog w) A (eval e env) Q E s
noncomputable def GivesB (s : Shared) (g : Sg) (K : Bool → AH → Prop) (Q : Bool → Shared → Prop) : Prop := ∀ b s' g', Po prog w h₀ s g s' g' NoX → K b g'.H → Q b s'
noncomputable def GivesL (s : Shared) (g : Sg) (K : List SV → AH → Prop) (Q : List Value → Shared → Prop) : Prop := ∀ vs sv s' g', Po prog w h₀ s g s' g' NoX → SCs s'.heap g'.r g'.H.length vs sv → K sv g'.H → Q vs s'
noncomputable def TOk (lev n : Nat) : Prop := ∀ (A : Around) (env : Env) (cx : Cx) (vars : Vars) (e : Expr) (s : Shared) (g : Sg) (K : Bool → AH → Prop) (Q : Bool → Shared → Prop) (E : Value → Shared → Prop),
  Rm A (lev + 1) → CxOk prog w h₀ lev cx env → St prog w h₀ s g → Fe h₀ env vars s g → wpT n cx vars e g.H K → GivesB prog w h₀ s g K Q → wpAny (model prog w) A (isTrue e env (eval e env)) Q E s
end
section
variable {prog : Program} {w : World} {h₀ : Heap} {A : Around} {E : Value → Shared → Prop} {s : Shared} {g : Sg} {Q : Value → Shared → Prop} {n lev : Nat} {env : Env} {cx : Cx} {vars : Vars}
theorem Gives.after {K : Kv} {s' : Shared} {g' : Sg} (G : Gives prog w h₀ s g K Q) (P : Po prog w h₀ s g s' g' NoX) : Gives prog w h₀ s' g' K Q := fun v sv s2 g2 P2 c k => G v sv s2 g2 (P.trans' P2) c k
theorem GivesB.after {K : Bool → AH → Prop} {Q : Bool → Shared → Prop} {s' : Shared} {g' : Sg} (G : GivesB prog w h₀ s g K Q) (P : Po prog w h₀ s g s' g' NoX) : GivesB prog w h₀ s' g' K Q := fun b s2 g2 P2 k => G b s2 g2 (P.trans' P2) k
theorem GivesL.after {K : List SV → AH → Prop} {Q : List Value → Shared → Prop} {s' : Shared} {g' : Sg} (G : GivesL prog w h₀ s g K Q) (P : Po prog w h₀ s g s' g' NoX) : GivesL prog w h₀ s' g' K Q := fun b c s2 g2 P2 k => G b c s2 g2 (P.trans' P2) k
set_option tactic.hygienic true in
theorem name_ok (B : Bs w h₀) (C : CxOk prog w h₀ lev cx env) (S : St prog w h₀ s g) (F : Fe h₀ env vars s g) {x : Str} {K : Kv} (h : nameK cx vars x g.H K) (G : Gives prog w h₀ s g K Q) : wpAny (model prog w) A (loadName env x) Q E s := by
  unfold nameK at h
  split at h
  · rename_i sv e
    by_cases hk : env.kindOf x = some .local
    · obtain ⟨m, hns, hm⟩ := F.ns
      obtain ⟨v, hv, c⟩ := hm x sv e hk
      exact wpAny_loadName_local F.kind hk hns hv (G.same S c h)
    · obtain ⟨hcf, c, v, hc, hv, sc⟩ := F.cv x sv e hk
      rcases hcf with q | q
      · exact wpAny_loadName_cell F.kind q hc hv (G.same S sc h)
      · refine wpAny_loadName_free F.kind q hc hv (G.same S sc h) (beq_eq_false_iff_ne.mpr fun hn => ?_)
        subst hn
        have := C.dn.2
        rw [show env.kindOf (sn "__classdict__") = some .free from q] at this
        cases this
  · split at h
    · rename_i sv e
      have hk := C.g x (beq_iff_eq.mp h.1)
      have hg := C.u x sv e
      have h := h.2
      exact wp_global B S.keep F.kind F.glob F.bi hg hk g.r g.H.length fun v c => G.same S c h
    · exact h.elim
set_option tactic.hygienic true in
theorem name_dbg (C : CxOk prog w h₀ lev cx env) (F : Fe h₀ env vars s g) {x : Str} {K : Kv} (h : nameK cx vars x g.H K) : (x == ("__debug__" : Str)) = false := by
  refine beq_eq_false_iff_ne.mpr fun hn => ?_
  subst hn
  have d := C.dn.1
  unfold nameK at h
  split at h
  · rename_i sv e
    by_cases hk : env.kindOf (sn "__debug__") = some .local
    · rw [hk] at d; cases d
    · obtain ⟨hcf, _⟩ := F.cv _ sv e hk
      rcases hcf with q | q
      · rw [show env.kindOf (sn "__debug__") = some .cell from q] at d; cases d
      · rw [show env.kindOf (sn "__debug__") = some .free from q] at d; cases d
  · split at h
    · rename_i sv e
      have q := C.g _ (beq_iff_eq.mp h.1)
      rw [show env.kindOf (sn "__debug__") = some .globalImplicit from q] at d; cases d
    · exact h.elim
theorem starEach_cons {e : Expr} {r : List Expr} (h : notSet e = true) : starEach (e :: r) env = (false, eval e env) :: starEach r env := by
  cases e <;> first | rfl | cases h
theorem notSet_in {op : CmpOp} {e : Expr} (h : notSet e = true) : behindInMarks op e = false := by
  cases e <;> first | rfl | cases h
theorem notSet_folded {e : Expr} (h : notSet e = true) (v : Value) : foldedSetIterable e env v = pure v := by
  cases e <;> first | rfl | cases h
theorem evs_ok (Ek : EOk prog w h₀ lev n) (R : Rm A (lev + 1)) (C : CxOk prog w h₀ lev cx env) (pos : Pos) : ∀ (es : List Expr) (s : Shared) (g : Sg) (K : List SV → AH → Prop) (Q : List Value → Shared → Prop), St prog w h₀ s g → Fe h₀ env vars s g →
    evs (wpE n cx vars) es g.H K → GivesL prog w h₀ s g K Q → wpAny (model prog w) A (spliced (backTo pos (starEach es env))) Q E s
  | [], s, g, K, Q, S, F, h, G => spliced_nil (G [] [] s g (Po.refl S _) .nil h)
  | e :: r, s, g, K, Q, S, F, h, G => by
    obtain ⟨hn, h⟩ := h
    rw [starEach_cons hn]
    show wpAny _ _ (spliced ((false, eval e env) :: backTo pos (starEach r env))) _ _ _
    refine spliced_cons (Ek A env cx vars e s g _ _ E R C S F h fun v sv s1 g1 P1 c1 k1 => ?_)
    refine evs_ok Ek R C pos r s1 g1 _ _ P1.st (F.keep P1) k1 fun vs svs s2 g2 P2 c2 k2 => ?_
    exact G (v :: vs) (sv :: svs) s2 g2 (P1.trans' P2) (.cons (P2.sc c1) c2) k2
theorem args_ok (Ek : EOk prog w h₀ lev n) (R : Rm A (lev + 1)) (C : CxOk prog w h₀ lev cx env) (pos : Pos) (f : Value) {es : List Expr} {K : List SV → AH → Prop} {Q : Args → Shared → Prop} (S : St prog w h₀ s g) (F : Fe h₀ env vars s g)
    (h : evs (wpE n cx vars) es g.H K) (G : GivesL prog w h₀ s g K fun vs s' => Q ⟨vs, []⟩ s') : wpAny (model prog w) A (evalArgs f true (backTo pos (starEach es env)) []) Q E s := by
  have key := evs_ok (E := E) Ek R C pos es s g K _ S F h G
  cases es with
  | nil =>
    refine evalArgs_nil3 ?_
    exact G [] [] s g (Po.refl S _) .nil h
  | cons e r =>
    have hn : notSet e = true := h.1
    rw [starEach_cons hn] at key ⊢
    exact evalArgs_plain key
theorem noStar (pos : Pos) : ∀ {es : List Expr}, es.all notSet = true → (backTo pos (starEach es env)).any (·.1) = false
  | [], _ => rfl
  | e :: r, h => by
    simp only [List.all_cons, Bool.and_eq_true] at h
    rw [starEach_cons h.1]
    show (false || (backTo pos (starEach r env)).any (·.1)) = false
    rw [noStar pos h.2]; rfl
theorem noStar' (pos : Pos) : ∀ {es : List Expr}, es.all notSet = true → (backTo pos (starEach es env)).all (fun x => !x.1) = true
  | [], _ => rfl
  | e :: r, h => by
    simp only [List.all_cons, Bool.and_eq_true] at h
    rw [starEach_cons h.1]
    show (true && (backTo pos (starEach r env)).all (fun x => !x.1)) = true
    rw [noStar' pos h.2]; rfl
theorem callC_ok {a : Addr} {ct : CT} {K : Kv} {args : List SV} {vs : List Value} (So : Sound prog w h₀ a lev ct) (R : Rm A lev) (S : St prog w h₀ s g) (cs : SCs s.heap g.r g.H.length vs args) (h : callC ct args g.H K) (G : Gives prog w h₀ s g K Q) :
    wpAny (model prog w) A (call (.ref a) vs) Q E s := by
  obtain ⟨hc, hs, h⟩ := h
  refine wpAny_call (So.run A s (g.sel _) vs _ _ _ R (S.sel hc) (cs.sel (subN_iff hs)) h fun v sv s' gc P c k => ?_)
  exact G v _ s' _ (Po.call S hc P) (SC.wb hc P c) k
theorem fun_ok (B : Bs w h₀) (R : Rm A (lev + 1)) (C : CxOk prog w h₀ lev cx env) {f : SV} {fv : Value} {vs : List Value} {args : List SV} {K : Kv} (h : wpFun cx f args g.H K) (S : St prog w h₀ s g) (cf : SC s.heap g.r g.H.length fv f)
    (cs : SCs s.heap g.r g.H.length vs args) (G : Gives prog w h₀ s g K Q) : wpAny (model prog w) A (call fv vs) Q E s := by
  cases f with
  | raw v =>
    have cf : fv = v := by cases cf with | raw _ => rfl
    subst cf
    cases fv with
    | ref a =>
      obtain ⟨ct, e, hh⟩ := asSome_of h
      exact callC_ok (C.γ _ _ e) (R.less (Nat.le_succ _)) S cs hh G
    | builtin id =>
      cases args with
      | nil => exact (show False from h).elim
      | cons x r => cases cs with | cons c1 cs => cases r with
        | nil => cases cs with | nil => exact b1_ok B R h S c1 G
        | cons y r =>
          obtain ⟨rfl, hh⟩ : r = [] ∧ _ := h
          obtain ⟨T, rfl, rfl, h2⟩ := asRawT_of hh
          cases cs with | cons c2 cs => cases cs with | nil => cases c2 with | raw _ =>
            exact isi_ok h2 c1 fun r k hr => G.tok S k (.p (.bool _)) hr
    | type T =>
      cases args with
      | nil => exact (show False from h).elim
      | cons x r => cases cs with | cons c1 cs => cases r with
        | nil => cases cs with | nil => exact t1_ok R h S c1 G
        | cons y r =>
          obtain ⟨rfl, hh⟩ : r = [] ∧ _ := h
          obtain ⟨a, rfl, h2⟩ := asInt_of hh
          obtain ⟨b, rfl, rfl, h3⟩ := asInt_of h2
          cases cs with | cons c2 cs => cases cs with | nil => exact range2_ok h3 S c1 c2 G
    | _ => exact (show False from h).elim
  | _ => exact (show False from h).elim
theorem callWith_ok (C : CxOk prog w h₀ lev cx env) {pos : Pos} {f : SV} {fv : Value} {first : List Value} {es : List Expr} (hp : es.all notSet = true) (hf : knownC cx f = true) (cf : SC s.heap g.r g.H.length fv f)
    (h : wpAny (model prog w) A (evalArgs fv true (backTo pos (starEach es env)) []) (fun a s₁ => (∀ b o, h₀.get? b = some o → s₁.heap.get? b = some o) ∧ wpAny (model prog w) A (call fv (first ++ a.pos) a.kw) Q E s₁) E s) :
    wpAny (model prog w) A (callWith pos fv first (backTo pos (starEach es env)) []) Q E s := by
  cases f with
  | raw v =>
    have cf : fv = v := by cases cf with | raw _ => rfl
    subst cf
    cases fv with
    | ref a =>
      obtain ⟨ct, e⟩ := Option.isSome_iff_exists.mp hf
      have So := C.γ a ct e
      rcases So.kp with ⟨o, fd, h1, h2⟩ | hm
      · exact callWith_function (o := o) (fd := fd) (wpAny_mono h (fun x s₁ y => ⟨⟨y.1 _ _ h1, h2⟩, y.2⟩) fun _z _z e => e)
      · unfold callWith
        refine wpAny_bind (wpAny_holding (wpAny_mono h (fun x s₁ y => wpAny_bind (wpAny_standAt ?_)) fun _z _z x => x))
        rw [noStar pos hp]
        refine wpAny_bind (hm A s₁ _ _ y.1 ?_)
        exact wpAny_bind (wpAny_mono y.2 (fun r s₂ hr => wpAny_bind (wpAny_holding (wpAny_point (wpAny_pure hr)))) fun _z _z x => x)
    | builtin id => exact callWith_builtin (noStar pos hp) (wpAny_mono h (fun _z _z y => y.2) fun _z _z e => e)
    | type T => exact PyProof.Rows.callWith_type (noStar pos hp) (wpAny_mono h (fun _z _z y => y.2) fun _z _z e => e)
    | _ => exact (show False from nomatch hf).elim
  | _ => exact (show False from nomatch hf).elim
end
end Mine

namespace Mine
open PySem PySem.W PySem.Calls PyProof.Rows

theorem markedEach_plain : ∀ (ops : List CmpOp) (rs : List Expr) (ts : List (Sem Value)), rs.all notSet = true → markedEach ops rs ts = ts := by
  intro ops
  induction ops with
  | nil => intro rs ts _; rfl
  | cons op ops ih =>
    intro rs ts h
    cases rs with
    | nil => cases ops <;> rfl
    | cons e es =>
      obtain ⟨h1, h2⟩ := Bool.and_eq_true_iff.mp (show (notSet e && es.all notSet) = true from h)
      cases ts with
      | nil => cases ops <;> cases es <;> rfl
      | cons t ts =>
        have st : markedEach (op :: ops) (e :: es) (t :: ts) = t :: markedEach ops es ts ∨ (ops = [] ∧ es = [] ∧ ts = []) := by
          cases ops with
          | cons _ _ => exact .inl rfl
          | nil => cases es with
            | cons _ _ => exact .inl rfl
            | nil => cases ts with
              | cons _ _ => exact .inl rfl
              | nil => exact .inr ⟨rfl, rfl, rfl⟩
        rcases st with q | ⟨rfl, rfl, rfl⟩
        · rw [q, ih _ _ h2]
        · show [markedBehindIn op e t] = [t]
          rw [markedBehindIn_of_false (notSet_in h1)]
section
variable {prog : Program} {w : World} {h₀ : Heap} {A : Around} {E : Value → Shared → Prop} {s : Shared} {g : Sg} {Q : Value → Shared → Prop} {n lev : Nat} {env : Env} {cx : Cx} {vars : Vars}
theorem evalEach_cons (e : Expr) (r : List Expr) : evalEach (e :: r) env = eval e env :: evalEach r env := rfl
theorem chain_ok (B : Bs w h₀) (Ek : EOk prog w h₀ lev n) (R : Rm A (lev + 1)) (C : CxOk prog w h₀ lev cx env) (pos : Pos) : ∀ (ops : List CmpOp) (rs : List Expr) (a : SV) (av : Value) (s : Shared) (g : Sg) (K : Bool → AH → Prop) (Q : Value → Shared → Prop),
    St prog w h₀ s g → Fe h₀ env vars s g → SC s.heap g.r g.H.length av a → chainK (wpE n cx vars) a ops rs g.H K → (∀ b s' g', Po prog w h₀ s g s' g' NoX → K b g'.H → Q (.bool b) s') →
    wpAny (model prog w) A (compareChain pos av ops (evalEach rs env)) Q E s := by
  intro ops
  induction ops with
  | nil => intro rs a av s g K Q S F ca h G; exact (show False from h).elim
  | cons op ops ih =>
    intro rs a av s g K Q S F ca h G
    cases rs with
    | nil => exact (show False from h).elim
    | cons r rs => cases ops with
      | nil =>
        obtain ⟨rfl, h⟩ : rs = [] ∧ _ := h
        show wpAny _ _ (do let rv ← holding [av] (eval r env); standAt pos; operate [av, rv] (compareOp op av rv)) _ _ _
        refine wpAny_bind (wpAny_holding (Ek A env cx vars r s g _ _ E R C S F h fun b sb s1 g1 P1 c1 k1 => ?_))
        refine wpAny_bind (wpAny_standAt (wpAny_operating (cmp_ok B (R.less (Nat.le_refl _)) k1 P1.st (P1.sc ca) c1 fun x k hk => ?_)))
        exact G x _ g1 (P1.trans' (Po.tok P1.st k)) hk
      | cons op' ops =>
        have h : wpE n cx vars r g.H fun b H1 => preCmp op a b H1 fun c => if c = true then chainK (wpE n cx vars) b (op' :: ops) rs H1 K else K false H1 := h
        rw [evalEach_cons]
        have e : compareChain pos av (op :: op' :: ops) (eval r env :: evalEach rs env) = (do
            let rv ← holding [av] (eval r env)
            standAt pos
            let c ← holding [av, rv] (compareOp op av rv)
            release [av, rv] [c]
            if ← holding [c, rv] (truthy c) then compareChain pos rv (op' :: ops) (evalEach rs env) else pure c) := by
          cases rs <;> rfl
        rw [e]
        refine wpAny_bind (wpAny_holding (Ek A env cx vars r s g _ _ E R C S F h fun b sb s1 g1 P1 c1 k1 => ?_))
        refine wpAny_bind (wpAny_standAt (wpAny_bind (wpAny_holding (cmp_ok B (R.less (Nat.le_refl _)) k1 P1.st (P1.sc ca) c1 fun x k hk => ?_))))
        refine wpAny_bind (wpAny_release (wpAny_bind (wpAny_holding (wpAny_truthy_bool ?_))))
        have P2 := P1.trans' (Po.tok P1.st k)
        cases x with
        | true => exact ih rs sb b _ g1 K Q P2.st (F.keep P2) c1 hk fun b' s' g' P' k' => G b' s' g' (P2.trans' P') k'
        | false => exact wpAny_pure (G false _ g1 P2 hk)
theorem tchain_ok (B : Bs w h₀) (Ek : EOk prog w h₀ lev n) (R : Rm A (lev + 1)) (C : CxOk prog w h₀ lev cx env) (pos : Pos) : ∀ (ops : List CmpOp) (rs : List Expr) (a : SV) (av : Value) (s : Shared) (g : Sg) (K : Bool → AH → Prop) (Q : Bool → Shared → Prop),
    St prog w h₀ s g → Fe h₀ env vars s g → SC s.heap g.r g.H.length av a → chainK (wpE n cx vars) a ops rs g.H K → (∀ b s' g', Po prog w h₀ s g s' g' NoX → K b g'.H → Q b s') →
    wpAny (model prog w) A (testChain pos av ops (evalEach rs env)) Q E s := by
  intro ops
  induction ops with
  | nil => intro rs a av s g K Q S F ca h G; exact (show False from h).elim
  | cons op ops ih =>
    intro rs a av s g K Q S F ca h G
    cases rs with
    | nil => exact (show False from h).elim
    | cons r rs => cases ops with
      | nil =>
        obtain ⟨rfl, h⟩ : rs = [] ∧ _ := h
        show wpAny _ _ (do let rv ← holding [av] (eval r env); standAt pos; let c ← operate [av, rv] (compareOp op av rv); holding [c] (truthy c)) _ _ _
        refine wpAny_bind (wpAny_holding (Ek A env cx vars r s g _ _ E R C S F h fun b sb s1 g1 P1 c1 k1 => ?_))
        refine wpAny_bind (wpAny_standAt (wpAny_bind (wpAny_operating (cmp_ok B (R.less (Nat.le_refl _)) k1 P1.st (P1.sc ca) c1 fun x k hk => ?_))))
        exact wpAny_holding (wpAny_truthy_bool (G x _ g1 (P1.trans' (Po.tok P1.st k)) hk))
      | cons op' ops =>
        have h : wpE n cx vars r g.H fun b H1 => preCmp op a b H1 fun c => if c = true then chainK (wpE n cx vars) b (op' :: ops) rs H1 K else K false H1 := h
        rw [evalEach_cons]
        have e : testChain pos av (op :: op' :: ops) (eval r env :: evalEach rs env) = (do
            let rv ← holding [av] (eval r env)
            standAt pos
            let c ← holding [av, rv] (compareOp op av rv)
            release [av, rv] [c]
            if ← holding [c, rv] (truthy c) then testChain pos rv (op' :: ops) (evalEach rs env) else pure false) := by
          cases rs <;> rfl
        rw [e]
        refine wpAny_bind (wpAny_holding (Ek A env cx vars r s g _ _ E R C S F h fun b sb s1 g1 P1 c1 k1 => ?_))
        refine wpAny_bind (wpAny_standAt (wpAny_bind (wpAny_holding (cmp_ok B (R.less (Nat.le_refl _)) k1 P1.st (P1.sc ca) c1 fun x k hk => ?_))))
        refine wpAny_bind (wpAny_release (wpAny_bind (wpAny_holding (wpAny_truthy_bool ?_))))
        have P2 := P1.trans' (Po.tok P1.st k)
        cases x with
        | true => exact ih rs sb b _ g1 K Q P2.st (F.keep P2) c1 hk fun b' s' g' P' k' => G b' s' g' (P2.trans' P') k'
        | false => exact wpAny_pure (G false _ g1 P2 hk)
set_option tactic.hygienic true in
theorem boolK_ok (Ek : EOk prog w h₀ lev n) (R : Rm A (lev + 1)) (C : CxOk prog w h₀ lev cx env) (pos : Pos) (op : BoolOp) : ∀ (xs : List Expr) (s : Shared) (g : Sg) (K : Kv) (Q : Value → Shared → Prop),
    St prog w h₀ s g → Fe h₀ env vars s g → boolK (wpE n cx vars) op xs g.H K → Gives prog w h₀ s g K Q → wpAny (model prog w) A (boolOp pos op (evalEach xs env)) Q E s
  | [], s, g, K, Q, S, F, h, G => h.elim
  | [x], s, g, K, Q, S, F, h, G => Ek A env cx vars x s g _ _ E R C S F h G
  | x :: y :: r, s, g, K, Q, S, F, h, G => by
    unfold boolK at h
    show wpAny _ _ (do
      let v ← eval x env
      standAt pos
      let t ← holding [v] (truthy v)
      match op, t with
      | .And, false | .Or, true => pure v
      | _, _ => boolOp pos op (evalEach (y :: r) env)) _ _ _
    refine wpAny_bind (Ek A env cx vars x s g _ _ E R C S F h fun v sv s1 g1 P1 c1 k1 => ?_)
    split at k1
    · rename_i b
      obtain rfl := c1.bool_of
      refine wpAny_bind (wpAny_standAt (wpAny_bind (wpAny_holding (wpAny_truthy_bool ?_))))
      have rest := fun hk => boolK_ok Ek R C pos op (y :: r) s1 g1 K Q P1.st (F.keep P1) hk (G.after P1)
      cases op <;> cases b
      · exact wpAny_pure (G _ _ s1 g1 P1 (.p (.bool _)) (by simpa using k1))
      · exact rest (by simpa using k1)
      · exact rest (by simpa using k1)
      · exact wpAny_pure (G _ _ s1 g1 P1 (.p (.bool _)) (by simpa using k1))
    · exact k1.elim
theorem boolT_ok (Tk : TOk prog w h₀ lev n) (R : Rm A (lev + 1)) (C : CxOk prog w h₀ lev cx env) (op : BoolOp) : ∀ (xs : List Expr) (s : Shared) (g : Sg) (K : Bool → AH → Prop) (Q : Bool → Shared → Prop),
    St prog w h₀ s g → Fe h₀ env vars s g → boolT (wpT n cx vars) op xs g.H K → GivesB prog w h₀ s g K Q → wpAny (model prog w) A (allTrue op xs env) Q E s
  | [], s, g, K, Q, S, F, h, G => wpAny_pure (G _ s g (Po.refl S _) h)
  | x :: r, s, g, K, Q, S, F, h, G => by
    rw [boolT_e] at h
    show wpAny _ _ (do
      match op, ← isTrue x env (eval x env) with
      | .And, false => pure false
      | .Or, true => pure true
      | _, _ => allTrue op r env) _ _ _
    refine wpAny_bind (Tk A env cx vars x s g _ _ E R C S F h fun b s1 g1 P1 k1 => ?_)
    have rest := fun hk => boolT_ok Tk R C op r s1 g1 K Q P1.st (F.keep P1) hk (G.after P1)
    cases op <;> cases b
    · exact wpAny_pure (G _ s1 g1 P1 (by simpa using k1))
    · exact rest (by simpa using k1)
    · exact rest (by simpa using k1)
    · exact wpAny_pure (G _ s1 g1 P1 (by simpa using k1))
end
end Mine

namespace Mine
open PySem PySem.W PySem.Calls PyProof.Rows

section
variable {prog : Program} {w : World} {h₀ : Heap} {A : Around} {E : Value → Shared → Prop} {s : Shared} {g : Sg} {n lev : Nat} {env : Env} {cx : Cx} {vars : Vars}
theorem Po.chg (S : St prog w h₀ s g) {h' : Heap} {tk' : Nat} {a : Addr} (sb : Heap.SameBut a s.heap h') (hn : ∀ n, n < g.H.length → g.r n ≠ a) (h0 : h₀.get? a = none)
    (nt : ∀ ob, s.heap.get? a = some ob → ¬ TR ob) : Po prog w h₀ s g { s with heap := h', toks := tk' } g (fun b => b = a) := by
  have k : ∀ b o, b ≠ a → s.heap.get? b = some o → h'.get? b = some o := fun b o q e => (sb.2 b q).trans e
  have tk : TK s.heap h' := fun b ob eb c => by
    by_cases q : b = a
    · subst q; exact absurd c (nt _ eb)
    · exact k b ob q eb
  refine ⟨⟨⟨_, _, rfl⟩, Nat.le_of_eq sb.1.symm, fun b o e nx => k b o (fun q => nx (.inl q)) e, tk⟩, ⟨fun b o e => k b o (fun q => by rw [q, h0] at e; cases e) (S.keep b o e), fun m o e => ?_, S.inj, S.new⟩,
    Nat.le_refl _, fun _z _z => rfl, fun _z _z => Iff.rfl, fun m a b => absurd (Nat.lt_of_lt_of_le b a) (Nat.lt_irrefl _)⟩
  exact (S.obj m o e).move (fun ob eb => k _ _ (hn m (List.getElem?_eq_some_iff.mp e).1) eb) tk (fun _z _z => rfl) (Nat.le_refl _)
theorem Po.dropX {s' : Shared} {g' : Sg} {X : Addr → Prop} (P : Po prog w h₀ s g s' g' X) (h : ∀ b, X b → s.heap.objs.size ≤ b) : Po prog w h₀ s g s' g' NoX :=
  ⟨⟨P.ev.same, P.ev.size, fun b o e nx => P.ev.frame b o e fun q => q.elim (fun x => absurd (Heap.lt_size e) (Nat.not_lt_of_le (h b x))) fun y => nx (.inr y), P.ev.tk⟩, P.st, P.len, P.agree, P.hid, P.fresh⟩
theorem Po.adopt {s' : Shared} {g' : Sg} {X : Addr → Prop} (P : Po prog w h₀ s g s' g' X) {a : Addr} {o : AO} (ha : s.heap.objs.size ≤ a) (h0 : h₀.get? a = none) (hn : ∀ n, n < g'.H.length → g'.r n ≠ a) (ho : OC prog w s'.heap (g'.add a o) a o) :
    Po prog w h₀ s g s' (g'.add a o) X := by
  have hl : (g'.add a o).H.length = g'.H.length + 1 := by simp [Sg.add]
  have hr : ∀ n, n < g'.H.length → (g'.add a o).r n = g'.r n := fun n hn => if_neg (Nat.ne_of_lt hn)
  have ha' : (g'.add a o).r g'.H.length = a := if_pos rfl
  have hH : ∀ n, n < g'.H.length → (g'.add a o).H[n]? = g'.H[n]? := fun n hn => List.getElem?_append_left hn
  have hHl : (g'.add a o).H[g'.H.length]? = some o := by simp [Sg.add]
  have S := P.st
  refine ⟨P.ev, ⟨S.keep, fun n x e => ?_, fun n m hn' hm e => ?_, fun n hn' => ?_⟩, by rw [hl]; exact Nat.le_succ_of_le P.len, fun n hn' => (hr n (Nat.lt_of_lt_of_le hn' P.len)).trans (P.agree n hn'), fun n hn' => by rw [hH n (Nat.lt_of_lt_of_le hn' P.len)]; exact P.hid n hn', fun n h1 h2 => ?_⟩
  · by_cases q : n < g'.H.length
    · rw [hH n q] at e
      rw [hr n q]
      exact (S.obj n x e).move (fun _z e => e) (TK.refl _) hr (by rw [hl]; exact Nat.le_succ _)
    · have : n = g'.H.length := by
        have := (List.getElem?_eq_some_iff.mp e).1
        rw [hl] at this
        omega
      subst this
      rw [hHl] at e
      cases e
      rw [ha']; exact ho
  · rw [hl] at hn' hm
    by_cases h1 : n < g'.H.length
    · by_cases h2 : m < g'.H.length
      · rw [hr n h1, hr m h2] at e; exact S.inj n m h1 h2 e
      · have : m = g'.H.length := by omega
        subst this
        rw [hr n h1, ha'] at e
        exact absurd e (hn n h1)
    · have : n = g'.H.length := by omega
      subst this
      by_cases h2 : m < g'.H.length
      · rw [hr m h2, ha'] at e
        exact absurd e.symm (hn m h2)
      · omega
  · rw [hl] at hn'
    by_cases h1 : n < g'.H.length
    · rw [hr n h1]; exact S.new n h1
    · have : n = g'.H.length := by omega
      subst this
      rw [ha']; exact h0
  · rw [hl] at h2
    by_cases q : n < g'.H.length
    · rw [hr n q]; exact P.fresh n h1 q
    · have : n = g'.H.length := by omega
      subst this
      rw [ha']; exact ha
theorem Po.notNew {s' : Shared} {g' : Sg} {X : Addr → Prop} (P : Po prog w h₀ s g s' g' X) {a : Addr} (h1 : a < s.heap.objs.size) (hn : ∀ n, n < g.H.length → g.r n ≠ a) : ∀ n, n < g'.H.length → g'.r n ≠ a := by
  intro m hm e
  by_cases q : m < g.H.length
  · rw [P.agree m q] at e; exact hn m q e
  · have := P.fresh m (Nat.le_of_not_lt q) hm
    rw [e] at this
    exact absurd h1 (Nat.not_lt_of_le this)
noncomputable def XS (env : Env) (x : Str) (b : Addr) : Prop := (env.kindOf x = some .local ∧ b = env.locals) ∨ (env.kindOf x = some .cell ∧ env.cells.lookup x = some b)
theorem XS.xf {env : Env} {x : Str} {b : Addr} (h : XS env x b) : XF env b := h.elim (fun q => .inl q.2) fun q => .inr ⟨x, q.2⟩
theorem store_ok (S : St prog w h₀ s g) (F : Fe h₀ env vars s g) {x : Str} {v : Value} {sv : SV} (c : SC s.heap g.r g.H.length v sv) (hx : env.kindOf x = some .local ∨ (env.kindOf x = some .cell ∧ ∃ a, env.cells.lookup x = some a)) {Q : Unit → Shared → Prop}
    (h : ∀ s', Po prog w h₀ s g s' g (XS env x) → Fe h₀ env (put x sv vars) s' g → Q () s') : wpAny (model prog w) A (storeName env x v) Q E s := by
  rcases hx with hk | ⟨hk, a, ha⟩
  · obtain ⟨m, hns, hm⟩ := F.ns
    obtain ⟨o, es, ep, e1, e2, _⟩ := id hns
    refine wpAny_storeName_local hk hns (fun h' hns' sb => ?_) (by rw [F.kind]; rfl)
    have nt : ∀ ob, s.heap.get? env.locals = some ob → ¬ TR ob := fun ob eb => by
      rw [e1] at eb; cases eb
      rintro (⟨_, vs, n, q⟩ | ⟨_, vs, q⟩) <;> (rw [e2] at q; cases q)
    have P0 := Po.chg S (tk' := s.toks + 1) sb F.lnew.2 F.lnew.1 nt
    have P : Po prog w h₀ s g { s with heap := h', toks := s.toks + 1 } g (XS env x) := P0.weak fun b q => .inl ⟨hk, q⟩
    refine h _ P ⟨F.kind, F.glob, F.bi, ⟨_, hns', fun y sy hy hyk => ?_⟩, fun y sy hy hyk => ?_, fun y b hb => ?_, F.cinj, F.lnew⟩
    · rw [lk_put] at hy
      by_cases q : y = x
      · rw [if_pos q] at hy ⊢
        cases hy
        exact ⟨v, rfl, P.sc c⟩
      · rw [if_neg q] at hy ⊢
        obtain ⟨u, hu, cu⟩ := hm y sy hy hyk
        exact ⟨u, hu, P.sc cu⟩
    · rw [lk_put] at hy
      by_cases q : y = x
      · subst q; exact absurd hk hyk
      · rw [if_neg q] at hy
        obtain ⟨h1, b, u, h2, h3, h4⟩ := F.cv y sy hy hyk
        exact ⟨h1, b, u, h2, h3.sameBut sb (F.cells y b h2).2.1, P.sc h4⟩
    · obtain ⟨⟨u, h1⟩, h2, h3⟩ := F.cells y b hb
      exact ⟨⟨u, h1.sameBut sb h2⟩, h2, h3⟩
  · obtain ⟨⟨u, hc⟩, h2, h3, h4⟩ := F.cells x a ha
    obtain ⟨o, e1, e2⟩ := id hc
    refine wpAny_storeName_cell F.kind hk ha hc fun h' hc' sb => ?_
    have nt : ∀ ob, s.heap.get? a = some ob → ¬ TR ob := fun ob eb => by
      rw [e1] at eb; cases eb
      rintro (⟨_, vs, n, q⟩ | ⟨_, vs, q⟩) <;> (rw [e2] at q; cases q)
    have P0 := Po.chg S (tk' := s.toks) sb h4 h3 nt
    have P : Po prog w h₀ s g { s with heap := h', toks := s.toks } g (XS env x) := P0.weak fun b q => .inr ⟨hk, q ▸ ha⟩
    obtain ⟨m, hns, hm⟩ := F.ns
    refine h _ P ⟨F.kind, F.glob, F.bi, ⟨m, hns.sameBut sb (Ne.symm h2), fun y sy hy hyk => ?_⟩, fun y sy hy hyk => ?_, fun y b hb => ?_, F.cinj, F.lnew⟩
    · rw [lk_put] at hy
      by_cases q : y = x
      · subst q; rw [hk] at hyk; cases hyk
      · rw [if_neg q] at hy
        obtain ⟨v', hv, cv⟩ := hm y sy hy hyk
        exact ⟨v', hv, P.sc cv⟩
    · rw [lk_put] at hy
      by_cases q : y = x
      · subst q
        rw [if_pos rfl] at hy
        cases hy
        exact ⟨.inl hk, a, v, ha, hc', P.sc c⟩
      · rw [if_neg q] at hy
        obtain ⟨h1, b, u', k2, k3, k4⟩ := F.cv y sy hy hyk
        exact ⟨h1, b, u', k2, k3.sameBut sb (fun z => q (F.cinj y x a (z ▸ k2) ha)), P.sc k4⟩
    · by_cases q : b = a
      · subst q
        exact ⟨⟨_, hc'⟩, (F.cells y b hb).2⟩
      · obtain ⟨⟨u', k1⟩, k2⟩ := F.cells y b hb
        exact ⟨⟨u', k1.sameBut sb q⟩, k2⟩
end
end Mine

namespace Mine
open PySem PySem.W PySem.Calls PyProof.Rows

section
variable {prog : Program} {w : World} {h₀ : Heap} {A : Around} {E : Value → Shared → Prop} {s : Shared} {g : Sg} {n lev : Nat} {env : Env} {cx : Cx} {vars : Vars}
noncomputable def prs (pos : Pos) (env : Env) : List (Option Expr) → List Expr → List (Sem Value × Sem Value)
  | some k :: ks, v :: vs => (eval k env, do let x ← eval v env; standAt pos; pure x) :: prs pos env ks vs
  | _, _ => []
theorem prs_e {pos : Pos} {env : Env} {k v : Expr} {ks : List (Option Expr)} {vs : List Expr} : prs pos env (some k :: ks) (v :: vs) = (eval k env, do let x ← eval v env; standAt pos; pure x) :: prs pos env ks vs := rfl
theorem prs_shape (pos : Pos) (env : Env) : ∀ (ks : List (Option Expr)) (vs : List Expr), ks.all Option.isSome = true → ks.length = vs.length →
    (evalEachOpt ks env).zip ((evalEach vs env).map fun v => do let x ← v; standAt pos; pure x) = (prs pos env ks vs).map (fun p => (some p.1, p.2)) ∧ (prs pos env ks vs).length = ks.length
  | [], [], _, _ => ⟨rfl, rfl⟩
  | some k :: ks, v :: vs, h1, h2 => by
    obtain ⟨a, b⟩ := prs_shape pos env ks vs (by simpa using h1) (by simpa using h2)
    refine ⟨?_, by simp [prs_e, b]⟩
    show (some (eval k env), _) :: _ = _
    simp only [prs_e, List.map_cons]
    congr 1
  | none :: ks, _, h1, _ => by simp at h1
  | [], _ :: _, _, h => by simp at h
  | some _ :: _, [], _, h => by simp at h
theorem pairs_ok (Ek : EOk prog w h₀ lev n) (R : Rm A (lev + 1)) (C : CxOk prog w h₀ lev cx env) (pos : Pos) : ∀ (ks : List (Option Expr)) (vs : List Expr) (s : Shared) (g : Sg) (K : List (Int × Int) → AH → Prop) (Q : List (Value × Value) → Shared → Prop),
    St prog w h₀ s g → Fe h₀ env vars s g → pairK (wpE n cx vars) ks vs g.H K →
    (∀ ps l kvs s' g', Po prog w h₀ s g s' g' NoX → Carries (PySem.intKind prog w) ps kvs → IntVals kvs l → K l g'.H → Q ps s') → wpAny (model prog w) A (evalPairs (prs pos env ks vs)) Q E s
  | [], vs, s, g, K, Q, S, F, h, G => by
    obtain ⟨rfl, h⟩ : vs = [] ∧ _ := h
    exact wpAny_pure (G [] [] [] s g (Po.refl S _) trivial .nil h)
  | k :: ks, [], s, g, K, Q, S, F, h, G => (show False from h).elim
  | k :: ks, v :: vs, s, g, K, Q, S, F, h, G => by
    obtain ⟨k, rfl, h⟩ := asSome_of h
    show wpAny _ _ (do
      let kv ← eval k env
      let vv ← holding [kv] (do let x ← eval v env; standAt pos; pure x)
      return (kv, vv) :: (← holding [kv, vv] (evalPairs (prs pos env ks vs)))) _ _ _
    refine wpAny_bind (Ek A env cx vars k s g _ _ E R C S F h fun a sa s1 g1 P1 c1 k1 => ?_)
    refine wpAny_bind (wpAny_holding (wpAny_bind (Ek A env cx vars v s1 g1 _ _ E R C P1.st (F.keep P1) k1 fun b sb s2 g2 P2 c2 k2 => wpAny_bind (wpAny_standAt (wpAny_pure ?_)))))
    obtain ⟨i, rfl, k3⟩ := asInt_of k2
    obtain ⟨j, rfl, k4⟩ := asInt_of k3
    have c1 := P2.sc c1
    obtain ⟨t, rfl⟩ := c1.int_of
    obtain ⟨u, rfl⟩ := c2.int_of
    have P := P1.trans' P2
    refine wpAny_bind (wpAny_holding (pairs_ok Ek R C pos ks vs s2 g2 _ _ P2.st (F.keep P) k4 fun ps l kvs s3 g3 P3 hc hv k3 => wpAny_pure ?_))
    exact G _ ((i, j) :: l) ((i, .int j u) :: kvs) s3 g3 (P.trans' P3) ⟨by simp [PySem.intKind, Value.isInt], rfl, hc⟩ (.cons hv) k3
theorem merged_ok : ∀ (kvs : List (Int × Value)) (l : List (Int × Int)) (d : List (Int × Value)) (e : List (Int × Int)), IntVals kvs l → IntVals d e → (d.map (·.1)).Nodup → IntVals (merged d kvs) (l.foldl (fun d e => setK e.1 e.2 d) e)
  | _, _, d, e, .nil, h, _ => h
  | _, _, d, e, .cons (k := k) (i := i) (t := t) q, h, nd => by
    show IntVals (merged (stored d k (.int i t)) _) (List.foldl _ (setK k i e) _)
    refine merged_ok _ _ _ _ q (h.set nd) ?_
    rw [(h.set nd (k := k) (i := i) (t := t)).nodup_keys]
    have : ∀ l : List (Int × Int), (l.map (·.1)).Nodup → ((setK k i l).map (·.1)).Nodup := by
      intro l
      induction l with
      | nil => intro _; simp [setK_e1]
      | cons a r ih =>
        obtain ⟨y, u⟩ := a
        intro hn
        simp only [List.map_cons, List.nodup_cons] at hn
        rw [setK_e2]
        by_cases q : y = k
        · rw [if_pos q]; simpa using hn
        · rw [if_neg q]
          simp only [List.map_cons, List.nodup_cons]
          refine ⟨fun hm => ?_, ih hn.2⟩
          have : ∀ (r : List (Int × Int)), y ∈ (setK k i r).map (·.1) → y ∈ r.map (·.1) := by
            intro r
            induction r with
            | nil => intro hm; simp [setK_e1] at hm; exact absurd hm q
            | cons b r ih2 =>
              obtain ⟨z, u'⟩ := b
              rw [setK_e2]
              by_cases q2 : z = k
              · rw [if_pos q2]; intro hm; simpa using hm
              · rw [if_neg q2]
                intro hm
                simp only [List.map_cons, List.mem_cons] at hm ⊢
                rcases hm with hm | hm
                · exact .inl hm
                · exact .inr (ih2 hm)
          exact hn.1 (this r hm)
    exact this _ (h.nodup_keys ▸ nd)
theorem dict_ok (Ek : EOk prog w h₀ lev n) (R : Rm A (lev + 1)) (C : CxOk prog w h₀ lev cx env) {pos : Pos} {ks : List (Option Expr)} {vs : List Expr} {K : Kv} {Q : Value → Shared → Prop} (S : St prog w h₀ s g) (F : Fe h₀ env vars s g)
    (hs : dictShape ks vs = true) (h : pairK (wpE n cx vars) ks vs g.H fun l H1 => K (.ref H1.length) (H1 ++ [.idict (dictOfPairs l)])) (G : Gives prog w h₀ s g K Q) : wpAny (model prog w) A (eval (.Dict ks vs pos) env) Q E s := by
  simp only [dictShape, Bool.and_eq_true, decide_eq_true_eq, beq_iff_eq, Bool.not_eq_true'] at hs
  obtain ⟨⟨⟨h15, hne⟩, hsm⟩, hl⟩ := hs
  obtain ⟨e1, e2⟩ := prs_shape pos env ks vs hsm hl
  have hsz : (s.heap.push { cls := .type "dict", data := .dict #[] }).objs.size = s.heap.objs.size + 1 := Heap.size_push ..
  have hD : (s.heap.push { cls := .type "dict", data := .dict #[] }).get? s.heap.objs.size = some { cls := .type "dict", data := .dict #[] } := Heap.get?_push_size _ rfl
  have P0 : Po prog w h₀ s g { s with heap := s.heap.push { cls := .type "dict", data := .dict #[] } } g NoX := Po.push S _ s.toks
  refine wpAny_Dict_pairs (knd := PySem.intKind prog w) e1 (fun q => ?_) (by rw [e2]; exact h15) (pairs_ok Ek R C pos ks vs _ g _ _ P0.st (F.keep P0) h fun ps l kvs s1 g1 P1 hc hv k1 => ?_)
  · rw [q] at e2
    have : ks = [] := List.eq_nil_of_length_eq_zero e2.symm
    rw [this] at hne
    simp at hne
  · have hlt : s.heap.objs.size < (s.heap.push { cls := .type "dict", data := .dict #[] }).objs.size := by rw [hsz]; exact Nat.lt_succ_self _
    have nl : ∀ m, m < g.H.length → g.r m ≠ s.heap.objs.size := fun m hm q => Nat.lt_irrefl _ (q ▸ S.lt hm)
    have nl1 := P1.notNew hlt nl
    have hD1 : s1.heap.get? s.heap.objs.size = some { cls := .type "dict", data := .dict #[] } := P1.ev.frame _ _ hD (by
      rintro (q | ⟨m, o, e, _, q⟩)
      · exact q
      · exact nl m (List.getElem?_eq_some_iff.mp e).1 q)
    have h0 : h₀.get? s.heap.objs.size = none := S.fresh (Nat.le_refl _)
    refine ⟨kvs, hc, ?_, fun h' hd' sb => ?_⟩
    · exact ⟨_, #[], 0, hD1, ⟨rfl, rfl, rfl⟩, rfl, by intro e he; simp at he, .nil, .nil⟩
    · have P2 := Po.chg P1.st (tk' := s1.toks + ps.length) sb nl1 h0 (fun ob eb => by
        rw [hD1] at eb; cases eb
        rintro (⟨_, vs, n, q⟩ | ⟨_, vs, q⟩) <;> cases q)
      have P : Po prog w h₀ s g { s1 with heap := h', toks := s1.toks + ps.length } g1 (fun b => b = s.heap.objs.size) := ((P0.trans' P1).weak (fun _z q => q.elim)).trans P2 (fun _z _z q => q)
      have P3 := P.adopt (a := s.heap.objs.size) (o := .idict (dictOfPairs l)) (Nat.le_refl _) h0 nl1 ⟨_, hd', merged_ok _ _ _ _ hv .nil .nil⟩
      exact G _ _ _ _ (P3.dropX fun b q => by rw [q]; exact Nat.le_refl _) (Sg.add_ref ..) k1
end
end Mine

namespace Mine
open PySem PySem.W PySem.Calls PyProof.Rows

section
variable {prog : Program} {w : World} {h₀ : Heap} {A : Around} {E : Value → Shared → Prop} {s : Shared} {g : Sg} {n lev : Nat} {env : Env} {cx : Cx} {vars : Vars}
theorem St.hide (S : St prog w h₀ s g) (m : Nat) : St prog w h₀ s ⟨g.r, g.H.set m .hid⟩ := by
  have hl : (g.H.set m AO.hid).length = g.H.length := List.length_set
  refine ⟨S.keep, fun k o e => ?_, fun a b ha hb => S.inj a b (hl ▸ ha) (hl ▸ hb), fun a ha => S.new a (hl ▸ ha)⟩
  have hk : k < g.H.length := hl ▸ (List.getElem?_eq_some_iff.mp e).1
  by_cases q : m = k
  · subst q
    have e' : some AO.hid = some o := by rw [← e]; exact (List.getElem?_set_self hk).symm
    cases e'
    exact (S.obj _ _ (List.getElem?_eq_getElem hk)).live
  · have e' : g.H[k]? = some o := by rw [← e]; exact (List.getElem?_set_ne q).symm
    exact OC.move (g := g) (g' := ⟨g.r, g.H.set m .hid⟩) (fun _z e => e) (TK.refl _) (fun _z _z => rfl) (Nat.le_of_eq hl.symm) (S.obj k o e')
theorem Po.unhide (S : St prog w h₀ s g) {m : Nat} {l : List PV} (e : g.H[m]? = some (.list l)) {s' : Shared} {g' : Sg} {X : Addr → Prop} (P : Po prog w h₀ s ⟨g.r, g.H.set m .hid⟩ s' g' X) (hX : ¬ X (g.r m)) :
    Po prog w h₀ s g s' ⟨g'.r, g'.H.set m (.list l)⟩ X := by
  have hm : m < g.H.length := (List.getElem?_eq_some_iff.mp e).1
  have hl : (g.H.set m AO.hid).length = g.H.length := List.length_set
  have hl' : (g'.H.set m (AO.list l)).length = g'.H.length := List.length_set
  have len : g.H.length ≤ g'.H.length := by have := P.len; rw [hl] at this; exact this
  have own : ∀ b, Own ⟨g.r, g.H.set m .hid⟩ b → Own g b := by
    rintro b ⟨k, o, ek, ne, rfl⟩
    by_cases q : m = k
    · subst q
      have : some AO.hid = some o := by rw [← ek]; exact (List.getElem?_set_self hm).symm
      cases this
      exact absurd rfl ne
    · exact ⟨k, o, by rw [← ek]; exact (List.getElem?_set_ne q).symm, ne, rfl⟩
  have agree : ∀ k, k < g.H.length → g'.r k = g.r k := fun k hk => P.agree k (hl.symm ▸ hk)
  obtain ⟨vs, c, o1, p1⟩ := OC.at_list S e
  have keepM : s'.heap.get? (g.r m) = some (W.listOf vs c) := P.ev.frame _ _ o1 (by
    rintro (q | ⟨k, o, ek, ne, er⟩)
    · exact hX q
    · have hk : k < g.H.length := hl ▸ (List.getElem?_eq_some_iff.mp ek).1
      have := S.inj k m hk hm er
      subst this
      have : some AO.hid = some o := by rw [← ek]; exact (List.getElem?_set_self hm).symm
      cases this
      exact ne rfl)
  refine ⟨⟨P.ev.same, P.ev.size, fun b o eb nx => P.ev.frame b o eb fun q => nx (q.imp id (own b)), P.ev.tk⟩, ⟨P.st.keep, fun k o ek => ?_, fun a b ha hb => P.st.inj a b (hl' ▸ ha) (hl' ▸ hb), fun a ha => P.st.new a (hl' ▸ ha)⟩,
    by show _ ≤ (g'.H.set m (.list l)).length; rw [hl']; exact len, agree, fun k hk => ?_, fun k h1 h2 => P.fresh k (by show (g.H.set m AO.hid).length ≤ k; rw [hl]; exact h1) (hl' ▸ h2)⟩
  · by_cases q : m = k
    · subst q
      have e' : some (AO.list l) = some o := by rw [← ek]; exact (List.getElem?_set_self (Nat.lt_of_lt_of_le hm len)).symm
      cases e'
      exact ⟨vs, c, by show s'.heap.get? (g'.r m) = _; rw [agree m hm]; exact keepM, p1.mono P.ev.tk⟩
    · have e' : g'.H[k]? = some o := by rw [← ek]; exact (List.getElem?_set_ne q).symm
      exact OC.move (g := g') (g' := ⟨g'.r, g'.H.set m (.list l)⟩) (fun _z e => e) (TK.refl _) (fun _z _z => rfl) (Nat.le_of_eq hl'.symm) (P.st.obj k o e')
  · by_cases q : m = k
    · subst q
      rw [e]
      show _ ↔ (g'.H.set m (.list l))[m]? = _
      rw [List.getElem?_set_self (Nat.lt_of_lt_of_le hm len)]
    · have := P.hid k (hl.symm ▸ hk)
      have e1 : (g.H.set m AO.hid)[k]? = g.H[k]? := List.getElem?_set_ne q
      have e2 : (g'.H.set m (AO.list l))[k]? = g'.H[k]? := List.getElem?_set_ne q
      show g.H[k]? = _ ↔ (g'.H.set m (AO.list l))[k]? = _
      rw [e2, ← e1]; exact this
noncomputable def Src (x : SV) (g : Sg) : Sg := ⟨g.r, hideS x g.H⟩
theorem St.src (S : St prog w h₀ s g) (x : SV) : St prog w h₀ s (Src x g) := by
  cases x with
  | ref m => exact S.hide m
  | _ => exact S
theorem Src.len (x : SV) (g : Sg) : (Src x g).H.length = g.H.length := by
  cases x with
  | ref m => exact List.length_set
  | _ => rfl
theorem SC.src {h : Heap} {v : Value} {sv : SV} (x : SV) (c : SC h g.r g.H.length v sv) : SC h (Src x g).r (Src x g).H.length v sv := by
  rw [Src.len]; exact c
theorem Fe.src (F : Fe h₀ env vars s g) (x : SV) : Fe h₀ env vars s (Src x g) := by
  have hl := Src.len x g
  refine ⟨F.kind, F.glob, F.bi, ?_, fun y sv h1 h2 => ?_, fun y c h1 => ?_, F.cinj, F.lnew.1, fun n hn => F.lnew.2 n (hl ▸ hn)⟩
  · obtain ⟨m, a, b⟩ := F.ns
    exact ⟨m, a, fun y sv h1 h2 => by obtain ⟨v, q1, q2⟩ := b y sv h1 h2; exact ⟨v, q1, q2.src x⟩⟩
  · obtain ⟨a, c, v, b, d, e⟩ := F.cv y sv h1 h2
    exact ⟨a, c, v, b, d, e.src x⟩
  · obtain ⟨a, b, c, d⟩ := F.cells y c h1
    exact ⟨a, b, c, fun n hn => d n (hl ▸ hn)⟩
set_option tactic.hygienic true in
theorem Po.back (S : St prog w h₀ s g) {x : SV} {l : List PV} (e : itemsOf x g.H = some l) {s' : Shared} {g' : Sg} {X : Addr → Prop} (P : Po prog w h₀ s (Src x g) s' g' X) (hX : ∀ m, x = .ref m → ¬ X (g.r m)) :
    Po prog w h₀ s g s' ⟨g'.r, showS x l g'.H⟩ X := by
  cases x with
  | ref m =>
    unfold itemsOf at e
    dsimp only at e
    split at e
    · rename_i l' el
      cases e
      exact P.unhide S el (hX m rfl)
    · cases e
  | _ => exact P
theorem showS_len (x : SV) (l : List PV) (H : AH) : (showS x l H).length = H.length := by
  cases x with
  | ref m => exact List.length_set
  | _ => rfl
structure IterAt (prog : Program) (w : World) (I : Addr) (l : List PV) (h : Heap) (fp : List Addr) (P : Nat → Value → Prop) (St' : Nat → Heap → Prop) : Prop where
  W : ∀ A : Around, A.handled = none → Walks prog w A I fp [I] l.length P St'
  val : ∀ i v, i < l.length → P i v → ∃ x, l[i]? = some x ∧ PC h v x
  nt : ∀ i h ob, St' i h → h.get? I = some ob → ¬ TR ob
theorem notTR {o : Obj} {c : String} (h : o.cls = .type c) (h1 : c ≠ "tuple") (h2 : c ≠ "range") : ¬ TR o := by
  rintro (⟨q, _⟩ | ⟨q, _⟩) <;> (rw [h] at q; injection q with q)
  · exact h1 q
  · exact h2 q
theorem chars_get {x : Str} {i : Nat} {v : Value} (h : SignAt x i v) : ∃ y, (chars x)[i]? = some y ∧ ∀ hp : Heap, PC hp v y := by
  obtain ⟨c, t, h1, rfl⟩ := h
  refine ⟨.str ⟨#[c]⟩, ?_, fun _z => .str _ _⟩
  unfold chars
  rw [List.getElem?_map, Array.getElem?_toList, h1]; rfl
set_option tactic.hygienic true in
theorem iter_ok (S : St prog w h₀ s g) {x : SV} {a : Value} {l : List PV} (e : itemsOf x g.H = some l) (ca : SC s.heap g.r g.H.length a x) {Q : Value → Shared → Prop}
    (hQ : ∀ (o : Obj) fp P St', IterAt prog w s.heap.objs.size l s.heap fp P St' → St' 0 (s.heap.push o) → (∀ b ∈ fp, b = s.heap.objs.size ∨ ((∃ ob, s.heap.get? b = some ob) ∧ ¬ Own (Src x g) b ∧ ((∃ ob, s.heap.get? b = some ob ∧ TR ob) ∨ ∃ m, m < g.H.length ∧ g.r m = b))) → Q (.ref s.heap.objs.size) { s with heap := s.heap.push o }) :
    wpAny (model prog w) A (pyIter a) Q E s := by
  unfold itemsOf at e
  split at e
  · rename_i m
    split at e
    · rename_i l' el
      cases e
      obtain ⟨hm, rfl⟩ := ca.ref_of
      obtain ⟨vs, c, o1, p1⟩ := OC.at_list S el
      have hne : g.r m ≠ s.heap.objs.size := fun q => Nat.lt_irrefl _ (q ▸ Heap.lt_size o1)
      have hl : l.length = vs.size := by rw [← p1.length, Array.length_toList]
      refine wpAny_pyIter_list (IsList.of o1) (hQ _ _ _ _ ⟨fun A' hA => by rw [hl]; exact Walks.list hA _ _ hne vs, fun i v _z h => ?_, fun i h ob st eo => ?_⟩ (by exact ⟨⟨_, Heap.get?_push_size _ rfl, rfl, rfl⟩, (IsList.of o1).push _⟩) fun b hb => ?_)
      · obtain ⟨y, h1, h2⟩ := p1.get' (i := i) (v := v) (by rw [Array.getElem?_toList]; exact h)
        exact ⟨y, h1, h2⟩
      · obtain ⟨⟨o', h1, h2, _⟩, _⟩ := st
        rw [h1] at eo; cases eo
        exact notTR h2 (by decide) (by decide)
      · simp only [List.mem_cons, List.not_mem_nil, or_false] at hb
        rcases hb with hb | hb
        · exact .inl hb
        · refine .inr ⟨⟨_, hb ▸ o1⟩, ?_, .inr ⟨m, hm, hb.symm⟩⟩
          rintro ⟨k, o, ek, ne, er⟩
          have hk : k < g.H.length := by have := (List.getElem?_eq_some_iff.mp ek).1; rw [Src.len] at this; exact this
          have := S.inj k m hk hm (er.trans hb)
          subst this
          have : some AO.hid = some o := by rw [← ek]; exact (List.getElem?_set_self hk).symm
          cases this
          exact ne rfl
    · cases e
  · cases e
    obtain ⟨_, _, _, _, rfl, ee, c, d, q⟩ := ca.tup_of
    rename_i aa ob vs k
    have hne : aa ≠ s.heap.objs.size := fun q => Nat.lt_irrefl _ (q ▸ Heap.lt_size ee)
    have hl : l.length = vs.size := by rw [← q.length, Array.length_toList]
    have it : s.heap.IsTuple aa vs := ⟨_, ee, c, _, d⟩
    refine wpAny_pyIter_tuple it (hQ _ _ _ _ ⟨fun A' hA => by rw [hl]; exact Walks.tuple hA _ _ hne vs, fun i v _z h => ?_, fun i h ob st eo => ?_⟩ (by exact ⟨⟨_, Heap.get?_push_size _ rfl, rfl, rfl⟩, it.at fun _z e => Heap.get?_push_of_some _ e⟩) fun b hb => ?_)
    · obtain ⟨y, h1, h2⟩ := q.get' (i := i) (v := v) (by rw [Array.getElem?_toList]; exact h)
      exact ⟨y, h1, h2⟩
    · obtain ⟨⟨o', h1, h2, _⟩, _⟩ := st
      rw [h1] at eo; cases eo
      exact notTR h2 (by decide) (by decide)
    · simp only [List.mem_cons, List.not_mem_nil, or_false] at hb
      rcases hb with hb | hb
      · exact .inl hb
      · refine .inr ⟨⟨_, hb ▸ ee⟩, ?_, .inl ⟨ob, hb ▸ ee, .inl ⟨c, _, _, d⟩⟩⟩
        rintro ⟨k', o, ek, ne, er⟩
        exact (S.obj k' o ek).notTup (ob := ob) (by rw [show g.r k' = b from er, hb]; exact ee) ne (.inl ⟨c, _, _, d⟩)
  · cases e
    obtain ⟨t, rfl⟩ := ca.str_of
    rename_i x
    have hl : (chars x).length = x.cps.size := by simp [chars]
    have val : ∀ i v, i < (chars x).length → SignAt x i v → ∃ y, (chars x)[i]? = some y ∧ PC s.heap v y := fun i v _z h => by obtain ⟨y, h1, h2⟩ := chars_get h; exact ⟨y, h1, h2 _⟩
    have fpk : ∀ b ∈ [s.heap.objs.size], b = s.heap.objs.size ∨ ((∃ ob, s.heap.get? b = some ob) ∧ ¬ Own (Src (.p (.str x)) g) b ∧ ((∃ ob, s.heap.get? b = some ob ∧ TR ob) ∨ ∃ m, m < g.H.length ∧ g.r m = b)) := fun b hb => .inl (List.mem_singleton.mp hb)
    cases ha : x.cps.all (· < 128)
    · refine wpAny_pyIter_wide ha (hQ _ _ _ _ ⟨fun A' hA => by rw [hl]; exact Walks.strWide hA _ x t, val, fun i h ob st eo => ?_⟩ (by exact ⟨_, Heap.get?_push_size _ rfl, rfl, rfl⟩) fpk)
      obtain ⟨o', h1, h2, _⟩ := st
      rw [h1] at eo; cases eo
      exact notTR h2 (by decide) (by decide)
    · refine wpAny_pyIter_ascii ha (hQ _ _ _ _ ⟨fun A' hA => by rw [hl]; exact Walks.strAscii hA _ x t, val, fun i h ob st eo => ?_⟩ (by exact ⟨_, Heap.get?_push_size _ rfl, rfl, rfl⟩) fpk)
      obtain ⟨o', h1, h2, _⟩ := st
      rw [h1] at eo; cases eo
      exact notTR h2 (by decide) (by decide)
  · split at e
    · rename_i lo hi hb
      cases e
      cases ca with | rng hr =>
        have hl : (rangeL lo hi).length = (hi - lo).toNat := by simp [rangeL]
        have hsz : Builtin.Range.rangeSize lo hi 1 = ((hi - lo).toNat : Int) := by rw [rangeSize_one]; split <;> omega
        refine wpAny_pyIter_range hr (small_one (by omega) (by omega) (by omega) (by omega)) (hQ _ _ _ _ ⟨fun A' hA => by rw [hl]; exact Walks.range hA _ lo 1 (hi - lo).toNat, fun i v hi' h => ?_, fun i h ob st eo => ?_⟩ ?_ fun b hb => .inl (List.mem_singleton.mp hb))
        · obtain ⟨t, rfl⟩ := h
          have hi2 : i < (hi - lo).toNat := hl ▸ hi'
          refine ⟨.int (lo + i), ?_, ?_⟩
          · unfold rangeL
            rw [List.getElem?_map, List.getElem?_range hi2]; rfl
          · rw [Int.mul_one]; exact .int _ _
        · rw [show h.get? s.heap.objs.size = _ from st] at eo
          cases eo
          exact notTR rfl (by decide) (by decide)
        · show _ = _
          rw [Heap.get?_push_size _ rfl, hsz]; simp
    · cases e
  · cases e
end
end Mine

namespace Mine
open PySem PySem.W PySem.Calls PyProof.Rows

section
variable {prog : Program} {w : World} {h₀ : Heap} {A : Around} {E : Value → Shared → Prop} {s : Shared} {g : Sg} {n lev : Nat} {env : Env} {cx : Cx} {vars : Vars}
theorem Po.chgN (S : St prog w h₀ s g) {h' : Heap} {tk' : Nat} {a : Addr} (k : ∀ b o, b ≠ a → s.heap.get? b = some o → h'.get? b = some o) (hs : s.heap.objs.size ≤ h'.objs.size) (hn : ∀ n, n < g.H.length → g.r n ≠ a) (h0 : h₀.get? a = none)
    (nt : ∀ ob, s.heap.get? a = some ob → ¬ TR ob) : Po prog w h₀ s g { s with heap := h', toks := tk' } g (fun b => b = a) := by
  have tk : TK s.heap h' := fun b ob eb c => by
    by_cases q : b = a
    · subst q; exact absurd c (nt _ eb)
    · exact k b ob q eb
  refine ⟨⟨⟨_, _, rfl⟩, hs, fun b o e nx => k b o (fun q => nx (.inl q)) e, tk⟩, ⟨fun b o e => k b o (fun q => by rw [q, h0] at e; cases e) (S.keep b o e), fun m o e => ?_, S.inj, S.new⟩,
    Nat.le_refl _, fun _z _z => rfl, fun _z _z => Iff.rfl, fun m a b => absurd (Nat.lt_of_lt_of_le b a) (Nat.lt_irrefl _)⟩
  exact (S.obj m o e).move (fun ob eb => k _ _ (hn m (List.getElem?_eq_some_iff.mp e).1) eb) tk (fun _z _z => rfl) (Nat.le_refl _)
theorem Fe.keepX {s' : Shared} {g' : Sg} {X : Addr → Prop} (F : Fe h₀ env vars s g) (P : Po prog w h₀ s g s' g' X) (hL : ¬ X env.locals) (hC : ∀ x c, env.cells.lookup x = some c → ¬ X c) : Fe h₀ env vars s' g' := by
  have nL : ¬ Own g env.locals := fun ⟨n, o, e, _, q⟩ => F.lnew.2 n (List.getElem?_eq_some_iff.mp e).1 q
  have nC : ∀ x c, env.cells.lookup x = some c → ¬ Own g c := fun x c hc ⟨n, o, e, _, q⟩ => (F.cells x c hc).2.2.2 n (List.getElem?_eq_some_iff.mp e).1 q
  have kL : ∀ o, s.heap.get? env.locals = some o → s'.heap.get? env.locals = some o := fun o e => P.ev.frame _ o e (by rintro (h | h); exact hL h; exact nL h)
  have kC : ∀ x c, env.cells.lookup x = some c → ∀ o, s.heap.get? c = some o → s'.heap.get? c = some o := fun x c hc o e => P.ev.frame _ o e (by rintro (h | h); exact hC x c hc h; exact nC x c hc h)
  refine ⟨F.kind, F.glob, F.bi, ?_, fun x sv hx hk => ?_, fun x c hc => ?_, F.cinj, F.lnew.1, fun n hn => ?_⟩
  · obtain ⟨m, ⟨o, es, ep, e, r⟩, hm⟩ := F.ns
    refine ⟨m, ⟨o, es, ep, kL o e, r⟩, fun x sv hx hk => ?_⟩
    obtain ⟨v, hv, sc⟩ := hm x sv hx hk
    exact ⟨v, hv, P.sc sc⟩
  · obtain ⟨h1, c, v, h2, ⟨o, e, r⟩, sc⟩ := F.cv x sv hx hk
    exact ⟨h1, c, v, h2, ⟨o, kC x c h2 o e, r⟩, P.sc sc⟩
  · obtain ⟨⟨v, ⟨o, e, r⟩⟩, h1, h2, h3⟩ := F.cells x c hc
    refine ⟨⟨v, ⟨o, kC x c hc o e, r⟩⟩, h1, h2, fun n hn => ?_⟩
    by_cases q : n < g.H.length
    · rw [P.agree n q]; exact h3 n q
    · intro z
      have := P.fresh n (Nat.le_of_not_lt q) hn
      rw [z] at this
      exact absurd (Heap.lt_size e) (Nat.not_lt_of_le this)
  · by_cases q : n < g.H.length
    · rw [P.agree n q]; exact F.lnew.2 n q
    · intro z
      obtain ⟨m, ⟨o, es, ep, e, r⟩, hm⟩ := F.ns
      have := P.fresh n (Nat.le_of_not_lt q) hn
      rw [z] at this
      exact absurd (Heap.lt_size e) (Nat.not_lt_of_le this)
theorem Fe.sub {vars' : Vars} (F : Fe h₀ env vars s g) (h : ∀ x sv, lk x vars' = some sv → lk x vars = some sv) : Fe h₀ env vars' s g := by
  refine ⟨F.kind, F.glob, F.bi, ?_, fun x sv hx hk => F.cv x sv (h x sv hx) hk, F.cells, F.cinj, F.lnew⟩
  obtain ⟨m, a, b⟩ := F.ns
  exact ⟨m, a, fun x sv hx hk => b x sv (h x sv hx) hk⟩
theorem Fe.llive (F : Fe h₀ env vars s g) : env.locals < s.heap.objs.size := by
  obtain ⟨m, ⟨o, es, ep, e, r⟩, hm⟩ := F.ns
  exact Heap.lt_size e
theorem Fe.clive (F : Fe h₀ env vars s g) {x : Str} {c : Addr} (h : env.cells.lookup x = some c) : c < s.heap.objs.size := by
  obtain ⟨⟨v, ⟨o, e, r⟩⟩, _⟩ := F.cells x c h
  exact Heap.lt_size e

noncomputable def clOf (cells : List (Str × Addr)) : List (Str × NameKind) → List (Str × Addr) → List (Str × Addr)
  | [], acc => acc
  | (n, k) :: r, acc => clOf cells r (if k = .free then (match cells.lookup n with | some a => (n, a) :: acc | none => acc) else acc)
theorem clOf_e {cells : List (Str × Addr)} {n : Str} {k : NameKind} {r : List (Str × NameKind)} {acc : List (Str × Addr)} : clOf cells ((n, k) :: r) acc = clOf cells r (if k = .free then (match cells.lookup n with | some a => (n, a) :: acc | none => acc) else acc) := rfl
theorem closure_ok {sc : Scope} (h : ∀ x ∈ freeN sc, ∃ c, env.cells.lookup x = some c) : closureFor sc env = pure (clOf env.cells sc.names []) := by
  unfold closureFor
  have key : ∀ (l : List (Str × NameKind)) (acc : List (Str × Addr)), (∀ e ∈ l, e.2 = .free → ∃ c, env.cells.lookup e.1 = some c) →
      (forIn l acc fun (x : Str × NameKind) (r : List (Str × Addr)) => (match x with
        | (name, kind) => if (kind == NameKind.free) = true then do
            let a ← cellOf env name
            pure (ForInStep.yield ((name, a) :: r))
          else pure (ForInStep.yield r) : Sem (ForInStep (List (Str × Addr))))) = (pure (clOf env.cells l acc) : Sem _) := by
    intro l
    induction l with
    | nil => intro acc _; rfl
    | cons e r ih =>
      obtain ⟨n, k⟩ := e
      intro acc h
      rw [List.forIn_cons]
      rw [clOf_e]
      by_cases q : k = .free
      · obtain ⟨c, hc⟩ := h (n, k) (.head _) q
        rw [if_pos q, hc]
        rw [q]
        have e1 : cellOf env n = (pure c : Sem Addr) := by unfold cellOf; rw [hc]
        dsimp only
        rw [if_pos (by rfl), e1]
        exact ih _ fun e he => h e (.tail _ he)
      · rw [if_neg q]
        dsimp only
        rw [if_neg (by simpa using q)]
        exact ih _ fun e he => h e (.tail _ he)
  have := key sc.names [] fun e he hk => h e.1 (by
    unfold freeN
    exact List.mem_map.mpr ⟨e, List.mem_filter.mpr ⟨he, by simp [hk]⟩, rfl⟩)
  simp only [bind_pure]
  exact this
set_option tactic.hygienic true in
theorem clOf_sub {cells : List (Str × Addr)} {x : Str} {c : Addr} : ∀ (l : List (Str × NameKind)) (acc : List (Str × Addr)), (clOf cells l acc).lookup x = some c → acc.lookup x = some c ∨ cells.lookup x = some c
  | [], acc, h => .inl h
  | (n, k) :: r, acc, h => by
    rw [clOf_e] at h
    rcases clOf_sub r _ h with h | h
    · split at h
      · split at h
        · rename_i a e
          rw [List.lookup_cons] at h
          by_cases q : x = n
          · subst q
            simp only [beq_self_eq_true] at h
            exact .inr (e.trans h)
          · rw [beq_eq_false_iff_ne.mpr q] at h
            exact .inl h
        · exact .inl h
      · exact .inl h
    · exact .inr h
theorem clOf_has {cells : List (Str × Addr)} {x : Str} : ∀ (l : List (Str × NameKind)) (acc : List (Str × Addr)), ((acc.lookup x).isSome = true ∨ ((∃ e ∈ l, e.1 = x ∧ e.2 = .free) ∧ (cells.lookup x).isSome = true)) → ((clOf cells l acc).lookup x).isSome = true
  | [], acc, h => by
    rcases h with h | ⟨⟨e, he, _⟩, _⟩
    · exact h
    · simp at he
  | (n, k) :: r, acc, h => by
    rw [clOf_e]
    refine clOf_has r _ ?_
    rcases h with h | ⟨⟨e, he, e1, e2⟩, hc⟩
    · left
      split
      · split
        · rw [List.lookup_cons]
          split
          · rfl
          · exact h
        · exact h
      · exact h
    · rcases List.mem_cons.mp he with rfl | he
      · left
        rw [if_pos e2]
        have e1 : n = x := e1
        subst e1
        obtain ⟨a, ha⟩ := Option.isSome_iff_exists.mp hc
        rw [ha]
        simp
      · exact .inr ⟨⟨e, he, e1, e2⟩, hc⟩
theorem subS_iff : ∀ {l L : List Str}, subS l L = true → ∀ n ∈ l, n ∈ L
  | [], _, _, n, h => by simp at h
  | a :: r, L, e, n, h => by
    simp only [subS, Bool.and_eq_true, List.contains_iff_mem] at e
    rcases List.mem_cons.mp h with rfl | h
    · exact e.1
    · exact subS_iff e.2 n h
theorem lookup_mapK {α β : Type} {x : Str} (φ : Str → α → β) : ∀ l : List (Str × α), (l.map fun e => (e.1, φ e.1 e.2)).lookup x = (l.lookup x).map (φ x)
  | [] => rfl
  | (n, k) :: r => by
    rw [List.map_cons, List.lookup_cons, List.lookup_cons]
    by_cases q : x = n
    · subst q; simp
    · rw [beq_eq_false_iff_ne.mpr q]
      exact lookup_mapK φ r
theorem relabel_lookup (sc : Scope) (env : Env) (x : Str) : (relabel sc env).names.lookup x = (sc.names.lookup x).map fun k => if (k == NameKind.free && env.scope.kind == .function && env.kindOf x == some .cell) = true then NameKind.cell else k := by
  rw [← lookup_mapK (fun n k => if (k == NameKind.free && env.scope.kind == .function && env.kindOf n == some .cell) = true then NameKind.cell else k)]
  unfold relabel
  dsimp only
  congr 1
  refine List.map_congr_left fun e _z => ?_
  obtain ⟨n, k⟩ := e
  dsimp only
  split <;> rfl
theorem lk_filter {α : Type} {x : Str} (p : Str → Bool) : ∀ l : List (Str × α), lk x (l.filter fun e => p e.1) = if p x = true then lk x l else none
  | [] => by simp [lk_e1]
  | (y, v) :: r => by
    have ih := lk_filter (x := x) p r
    rw [List.filter_cons]
    by_cases q : p y = true
    · rw [if_pos (by exact q)]
      simp only [lk_e2]
      by_cases e : y = x
      · subst e; simp [q]
      · rw [if_neg e, if_neg e, ih]
    · rw [if_neg (by exact q), ih]
      by_cases e : y = x
      · subst e; simp [q]
      · simp only [lk_e2, if_neg e]
set_option tactic.hygienic true in
theorem lk_freeV {sc : Scope} {x : Str} {sv : SV} (h : lk x (freeV sc vars) = some sv) : sc.names.lookup x = some .free ∧ lk x vars = some sv := by
  unfold freeV at h
  rw [lk_filter (fun y => sc.names.lookup y == some .free)] at h
  split at h
  · rename_i q
    exact ⟨by simpa using q, h⟩
  · cases h
theorem mem_freeN {sc : Scope} {x : Str} (h : sc.names.lookup x = some .free) : x ∈ freeN sc := by
  have := mem_of_lookup' h
  exact List.mem_map.mpr ⟨_, List.mem_filter.mpr ⟨this, by simp⟩, rfl⟩
theorem lookup_of_mem {α : Type} {x : Str} {v : α} : ∀ {l : List (Str × α)}, (x, v) ∈ l → ∃ u, l.lookup x = some u
  | [], h => by simp at h
  | (y, u) :: r, h => by
    rw [List.lookup_cons]
    by_cases q : x = y
    · subst q; simp
    · rw [beq_eq_false_iff_ne.mpr q]
      refine lookup_of_mem (l := r) ((List.mem_cons.mp h).resolve_left fun e => q ?_)
      exact congrArg Prod.fst e
structure CompOk (sc : Scope) (x : Str) : Prop where
  kind : sc.kind = .function
  dbg : sc.names.lookup (sn "__debug__") = none
  cd : sc.names.lookup (sn "__classdict__") = none
  own : sc.names.lookup x = some .local
  uni : ∀ e ∈ sc.names, sc.names.lookup e.1 = some e.2
  all : ∀ e ∈ sc.names, e.2 = .local ∨ e.2 = .free ∨ e.2 = .globalImplicit
theorem compOk_iff {sc : Scope} {x : Str} (h : compOk sc x = true) : CompOk sc x := by
  simp only [compOk, Bool.and_eq_true, List.all_eq_true, beq_iff_eq, Option.isNone_iff_eq_none] at h
  obtain ⟨⟨⟨⟨h1, h2⟩, h3⟩, h4⟩, h5⟩ := h
  refine ⟨h1, h2, h3, h4, fun e he => (h5 e he).1, fun e he => ?_⟩
  have := (h5 e he).2
  simpa [or_assoc] using this
theorem noOwn {a : Addr} (h : ∀ n, n < g.H.length → g.r n ≠ a) : ¬ Own g a := fun ⟨n, _, e, _, q⟩ => h n (List.getElem?_eq_some_iff.mp e).1 q
theorem tests_ok (Tk : TOk prog w h₀ lev n) (R : Rm A (lev + 1)) (C : CxOk prog w h₀ lev cx env) : ∀ (ifs : List Expr) (s : Shared) (g : Sg) (K : Bool → AH → Prop) (Q : Bool → Shared → Prop),
    St prog w h₀ s g → Fe h₀ env vars s g → boolT (wpT n cx vars) .And ifs g.H K → GivesB prog w h₀ s g K Q →
    wpAny (model prog w) A (forIn ifs true fun c r => if r = true then do let ok ← isTrue c env (eval c env); pure (ForInStep.yield ok) else pure (ForInStep.yield r)) Q E s
  | [], s, g, K, Q, S, F, h, G => wpAny_pure (G _ s g (Po.refl S _) h)
  | x :: r, s, g, K, Q, S, F, h, G => by
    rw [boolT_e] at h
    rw [List.forIn_cons]
    refine wpAny_bind ?_
    rw [if_pos rfl]
    refine wpAny_bind (Tk A env cx vars x s g _ _ E R C S F h fun b s1 g1 P1 k1 => wpAny_pure ?_)
    dsimp only
    cases b with
    | true =>
      rw [if_neg (by decide)] at k1
      exact tests_ok Tk R C r s1 g1 K Q P1.st (F.keep P1) k1 (G.after P1)
    | false =>
      rw [if_pos (by decide)] at k1
      have : ∀ l : List Expr, wpAny (model prog w) A (forIn l false fun c r => if r = true then do let ok ← isTrue c env (eval c env); pure (ForInStep.yield ok) else pure (ForInStep.yield r)) Q E s1 := by
        intro l
        induction l with
        | nil => exact wpAny_pure (G false s1 g1 P1 k1)
        | cons y r ih =>
          rw [List.forIn_cons]
          exact wpAny_bind (by rw [if_neg (by decide)]; exact wpAny_pure ih)
      exact this r
theorem Po.frameAt {s' : Shared} {g' : Sg} {X : Addr → Prop} (P : Po prog w h₀ s g s' g' X) {a : Addr} (h1 : ¬ X a) (h2 : ¬ Own g a) : ∀ o, s.heap.get? a = some o → s'.heap.get? a = some o := fun o e => P.ev.frame a o e fun q => q.elim h1 h2
theorem comp_loop (Ek : EOk prog w h₀ lev n) (Tk : TOk prog w h₀ lev n) (R : Rm A (lev + 1)) {cenv : Env} {cxc : Cx} (CC : CxOk prog w h₀ lev cxc cenv) {x : Str} (hx : cenv.kindOf x = some .local) {base : Vars} (hb : lk x base = none)
    {sB : Shared} {gB : Sg} {I D : Addr} {l : List PV} {fp : List Addr} {P : Nat → Value → Prop} {St' : Nat → Heap → Prop} {h1 : Heap} (IT : IterAt prog w I l h1 fp P St') (tk1 : TK h1 sB.heap) (S : Mine.St prog w h₀ sB gB) (F : Fe h₀ cenv base sB gB)
    (st0 : St' 0 sB.heap) (hfp : ∀ b ∈ fp, b < sB.heap.objs.size ∧ ¬ Own gB b ∧ b ≠ cenv.locals ∧ b ≠ D) (hI : I < sB.heap.objs.size ∧ (∀ n, n < gB.H.length → gB.r n ≠ I) ∧ h₀.get? I = none ∧ I ≠ cenv.locals ∧ I ≠ D ∧ ∀ y c, cenv.cells.lookup y = some c → c ≠ I)
    (hD : D < sB.heap.objs.size ∧ (∀ n, n < gB.H.length → gB.r n ≠ D) ∧ h₀.get? D = none ∧ D ≠ cenv.locals ∧ ∀ y c, cenv.cells.lookup y = some c → c ≠ D) (pl : sB.heap.PlainList D #[])
    {ifs : List Expr} {elt iter : Expr} {px : Pos} {scope : Scope} {pos : Pos} {KK : List PV → AH → Prop} (h : compK (wpE n) (wpT n) cxc base x ifs elt l [] gB.H KK) {RR : Result → Shared → Prop}
    (G : ∀ s' g' ys acc, Po prog w h₀ sB gB s' g' (fun b => b = I ∨ b = D ∨ b = cenv.locals) → s'.heap.PlainList D ys → PCs s'.heap ys.toList acc → Fe h₀ cenv base s' g' → KK acc g'.H → RR (.ok .next) s') :
    codeAny (model prog w) A (.compLoop (.ListComp elt [⟨.Name x px, iter, ifs, 0⟩] scope pos) 0 (.ref I) (.ref D) cenv) RR sB := by
  have sub : ∀ {y : PV} {z : Str} {sv : SV}, lk z base = some sv → lk z (put x (.p y) base) = some sv := fun {y z sv} e => by
    rw [lk_put]
    by_cases q : z = x
    · subst q; rw [hb] at e; cases e
    · rw [if_neg q]; exact e
  refine codeAny_compLoop_tests (fun k s' => ∃ i acc g' ys, k = l.length + 1 - i ∧ i ≤ l.length ∧ Po prog w h₀ sB gB s' g' (fun b => b = I ∨ b = D ∨ b = cenv.locals) ∧ St' i s'.heap ∧ Fe h₀ cenv base s' g' ∧ s'.heap.PlainList D ys ∧ PCs s'.heap ys.toList acc ∧
    compK (wpE n) (wpT n) cxc base x ifs elt (l.drop i) acc g'.H KK) ?_ (l.length + 1) ⟨0, [], gB, #[], rfl, Nat.zero_le _, Po.refl S _, st0, F, pl, .nil, h⟩
  rintro k s' ⟨i, acc, g', ys, rfl, hi, P0, st, F0, pl0, pc0, h0⟩
  have nI := P0.notNew hI.1 hI.2.1
  have nD := P0.notNew hD.1 hD.2.1
  have hW := IT.W A R.hd
  by_cases hlt : i < l.length
  · have hd : l.drop i = l[i] :: l.drop (i + 1) := List.drop_eq_getElem_cons hlt
    rw [hd] at h0
    rw [compK_e] at h0
    refine wpAny_with_size (hW.item i _ _ _ hlt st fun v h' tk hP st1 hk hsz => ?_)
    obtain ⟨y, hy, pv⟩ := IT.val i v hlt hP
    have hy : l[i] = y := by rw [List.getElem?_eq_getElem hlt] at hy; exact Option.some.inj hy
    subst hy
    have P1 : Po prog w h₀ s' g' { s' with heap := h', toks := tk } g' (fun b => b = I) := Po.chgN P0.st (fun b o q e => hk b o (by simpa using q) e) hsz nI hI.2.2.1 (IT.nt i _ · st)
    have F1 := F0.keepX P1 (fun q => hI.2.2.2.1 q.symm) (fun z c hz q => hI.2.2.2.2.2 z c hz q)
    refine wpAny_assign_Name (store_ok P1.st F1 (.p ((pv.mono tk1).mono (P0.ev.tk.trans P1.ev.tk))) (.inl hx) fun s2 P2 F2 => ?_)
    have xs : ∀ b, XS cenv x b → b = cenv.locals := fun b q => q.elim (fun z => z.2) fun z => by rw [hx] at z; cases z.1
    have nofp : ∀ b ∈ fp, ¬ Own g' b := fun b hb q => (hfp b hb).2.1 (P0.own_back (hfp b hb).1 q)
    have st2 : St' (i + 1) s2.heap := hW.frame _ _ _ st1 fun b hb o e => P2.frameAt (fun q => (hfp b hb).2.2.1 (xs b q)) (nofp b hb) o e
    have pl2 : s2.heap.PlainList D ys := pl0.at fun o e => P2.frameAt (fun q => hD.2.2.2.1 (xs _ q)) (noOwn nD) o (P1.frameAt (fun q => hI.2.2.2.2.1 q.symm) (noOwn nD) o e)
    refine tests_ok Tk R CC ifs s2 g' _ _ P2.st F2 h0 fun b s3 g3 P3 k3 => ?_
    have P03 : Po prog w h₀ sB gB s3 g3 (fun b => b = I ∨ b = D ∨ b = cenv.locals) :=
      (((P0.trans' (P1.weak fun b q => .inl q)).trans' (P2.weak fun b q => .inr (.inr (xs b q)))).trans' (P3.weak fun _z q => q.elim))
    have nD3 := P03.notNew hD.1 hD.2.1
    have pl3 : s3.heap.PlainList D ys := pl2.at fun o e => P3.frameAt (fun q => q) (noOwn nD) o e
    have st3 : St' (i + 1) s3.heap := hW.frame _ _ _ st2 fun b hb o e => P3.frameAt (fun q => q) (nofp b hb) o e
    have F3 := F2.keep P3
    have pc3 : PCs s3.heap ys.toList acc := pc0.mono (P1.ev.tk.trans (P2.ev.tk.trans P3.ev.tk))
    cases b with
    | false =>
      rw [if_neg (by decide)] at k3
      rw [if_neg (by decide)]
      exact ⟨l.length + 1 - (i + 1), by omega, i + 1, acc, g3, ys, rfl, hlt, P03, st3, F3.sub fun z sv e => sub e, pl3, pc3, k3⟩
    | true =>
      rw [if_pos rfl] at k3
      rw [if_pos rfl]
      refine Ek A cenv cxc _ elt s3 g3 _ _ _ R CC P03.st F3 k3 fun u su s4 g4 P4 c4 k4 => ?_
      obtain ⟨y, rfl, hz, k4⟩ := asPV_of k4
      have c4 := c4.pc_of
      have P04 := P03.trans' (P4.weak (Y := fun b => b = I ∨ b = D ∨ b = cenv.locals) fun _z q => q.elim)
      have nD4 := P04.notNew hD.1 hD.2.1
      have pl4 : s4.heap.PlainList D ys := pl3.at fun o e => P4.frameAt (fun q => q) (noOwn nD3) o e
      have nofp3 : ∀ b ∈ fp, ¬ Own g3 b := fun b hb q => (hfp b hb).2.1 (P03.own_back (hfp b hb).1 q)
      have nofp4 : ∀ b ∈ fp, ¬ Own g4 b := fun b hb q => (hfp b hb).2.1 (P04.own_back (hfp b hb).1 q)
      have st4 : St' (i + 1) s4.heap := hW.frame _ _ _ st3 fun b hb o e => P4.frameAt (fun q => q) (nofp3 b hb) o e
      have pc4 : PCs s4.heap ys.toList acc := pc3.mono P4.ev.tk
      have hys : ys.size = acc.length := by rw [← pc4.length, Array.length_toList]
      obtain ⟨c, hc⟩ := id pl4
      refine wpAny_list_append_plain pl4 (fun h5 pl5 sb => ?_) (by rw [hys]; exact Nat.le_trans hz (by decide))
      have P5 := Po.chg P04.st (tk' := s4.toks) sb nD4 hD.2.2.1 (fun ob eo => by rw [hc] at eo; cases eo; exact notTR rfl (by decide) (by decide))
      have P05 := P04.trans' (P5.weak fun b q => .inr (.inl q))
      have F4 := (F3.keep P4).keepX P5 (fun q => hD.2.2.2.1 q.symm) (fun z c hz q => hD.2.2.2.2 z c hz q)
      refine ⟨l.length + 1 - (i + 1), by omega, i + 1, acc ++ [y], g4, _, rfl, hlt, P05, ?_, F4.sub fun z sv e => sub e, pl5, ?_, k4⟩
      · exact hW.frame _ _ _ st4 fun b hb o e => P5.frameAt (fun q => (hfp b hb).2.2.2 q) (nofp4 b hb) o e
      · rw [Array.toList_push]
        exact (pc4.append (.cons c4 .nil)).mono P5.ev.tk
  · have hin : i = l.length := by omega
    subst hin
    refine wpAny_with_size (hW.done _ _ _ st fun h' tk hk hsz => ?_)
    have P1 : Po prog w h₀ s' g' { s' with heap := h', toks := tk } g' (fun b => b = I) := Po.chgN P0.st (fun b o q e => hk b o (by simpa using q) e) hsz nI hI.2.2.1 (IT.nt _ _ · st)
    rw [List.drop_length] at h0
    exact G _ g' ys acc (P0.trans' (P1.weak fun b q => .inl q)) (pl0.at fun o e => P1.frameAt (fun q => hI.2.2.2.2.1 q.symm) (noOwn nD) o e) (pc0.mono P1.ev.tk)
      (F0.keepX P1 (fun q => hI.2.2.2.1 q.symm) (fun z c hz q => hI.2.2.2.2.2 z c hz q)) h0
set_option tactic.hygienic true in
theorem comp_ok (Ek : EOk prog w h₀ lev n) (Tk : TOk prog w h₀ lev n) (R : Rm A (lev + 1)) (C : CxOk prog w h₀ lev cx env) (S : Mine.St prog w h₀ s g) (F : Fe h₀ env vars s g) {elt iter : Expr} {x : Str} {px pos pos' : Pos} {ifs : List Expr} {sc : Scope}
    (hn : notSet iter = true) (hc : compOk sc x = true) (hs : subS (freeN sc) cx.F = true) {KK : List PV → AH → Prop}
    (h : wpE n cx vars iter g.H fun it H1 => ∃ l, itemsOf it H1 = some l ∧ compK (wpE n) (wpT n) (cxC cx sc) (freeV sc vars) x ifs elt l [] (hideS it H1) fun acc H2 => KK acc (showS it l H2)) (use : Option (Value → Sem Unit)) {Q : Value → Shared → Prop}
    (G : ∀ s' g' D C ys acc m, Po prog w h₀ s g s' g' NoX → D ≠ C → s.heap.objs.size ≤ D → s.heap.objs.size ≤ C → (∀ n, n < g'.H.length → g'.r n ≠ D) → (∀ n, n < g'.H.length → g'.r n ≠ C) → h₀.get? D = none → h₀.get? C = none → s'.heap.PlainList D ys → PCs s'.heap ys.toList acc → s'.heap.Ns C m →
      KK acc g'.H → compPost (model prog w) A E use Q (.ref D) C (.ok .next) s') :
    wpAny (model prog w) A (comprehension (.ListComp elt [⟨.Name x px, iter, ifs, 0⟩] sc pos) sc env pos' (newList []) false (eval iter env) use) Q E s := by
  have O := compOk_iff hc
  have hf : ∀ y ∈ freeN sc, (env.kindOf y = some .cell ∨ env.kindOf y = some .free) ∧ ∃ c, env.cells.lookup y = some c := fun y hy => C.f y (subS_iff hs y hy)
  have hcell : ∀ e ∈ sc.names, e.2 ≠ .cell := fun e he q => by rcases O.all e he with h | h | h <;> rw [h] at q <;> cases q
  refine wpAny_comprehension_free (e := .ListComp elt [⟨.Name x px, iter, ifs, 0⟩] sc pos) rfl (notSet_folded hn) (closure_ok fun y hy => (hf y hy).2) O.kind (fun e he hl => ?_) ?_
  · rw [O.uni e he, hl]
  refine Ek A env cx vars iter s g _ _ E R C S F h fun it sit s1 g1 P1 c1 k1 => ?_
  · obtain ⟨l, el, k1⟩ := k1
    refine iter_ok P1.st el c1 fun o fp P St' IT st0 fpk => ?_
    refine wpAny_newObj_type (wpAny_newFunctionEnv hcell (by intro y hy; simp at hy) (fun h₁ hns₁ hsb₁ => ?_) O.kind)
    dsimp only at hns₁ hsb₁ ⊢
    generalize hH2 : (s1.heap.push o).push { cls := .type "list", dict := none, data := .seq ([] : List Value).toArray } = H2 at hns₁ hsb₁ ⊢
    have hI : (s1.heap.push o).objs.size = s1.heap.objs.size + 1 := Heap.size_push ..
    have hC : H2.objs.size = s1.heap.objs.size + 2 := by rw [← hH2, Heap.size_push, hI]
    have hh1 : h₁.objs.size = s1.heap.objs.size + 3 := by rw [hsb₁.1, Heap.size_push, hC]
    rw [hC] at hsb₁ hns₁
    rw [hI, hC]
    have old : ∀ b o', (s1.heap.push o).get? b = some o' → h₁.get? b = some o' := fun b o' e => by
      have hb : b < s1.heap.objs.size + 1 := hI ▸ Heap.lt_size e
      exact hsb₁.extBut b o' (Nat.ne_of_lt (Nat.lt_succ_of_lt hb)) (Heap.get?_push_of_some _ (hH2 ▸ Heap.get?_push_of_some _ e))
    have old1 : ∀ b o', s1.heap.get? b = some o' → h₁.get? b = some o' := fun b o' e => old b o' (Heap.get?_push_of_some _ e)
    have pl : h₁.PlainList (s1.heap.objs.size + 1) #[] := ⟨_, hsb₁.extBut _ _ (Nat.ne_of_lt (Nat.lt_succ_self _)) (Heap.get?_push_of_some _ (by rw [← hH2, ← hI]; exact Heap.get?_push_size _ rfl))⟩
    have S1 := P1.st
    have PB : Po prog w h₀ s1 g1 { s1 with heap := h₁, toks := s1.toks + ([] : List (Str × Value)).length } g1 NoX := Po.ext S1 old1 (by rw [hh1]; omega)
    have SB := PB.st.src sit
    have F1 := F.keep P1
    have hlen := Src.len sit g1
    have hlab : ∀ k, k < (Src sit g1).H.length → (Src sit g1).r k < s1.heap.objs.size := fun k hk => S1.lt (hlen ▸ hk)
    have hnl : ∀ a, s1.heap.objs.size ≤ a → ∀ k, k < (Src sit g1).H.length → (Src sit g1).r k ≠ a := fun a ha k hk q => absurd (hlab k hk) (Nat.not_lt_of_le (q ▸ ha))
    have hcells : ∀ y c, (clOf env.cells sc.names []).lookup y = some c → env.cells.lookup y = some c := fun y c e => (clOf_sub _ _ e).resolve_left (by simp)
    have hkind : ∀ y, (compEnvC sc (clOf env.cells sc.names []) (s1.heap.objs.size + 2) env).kindOf y = (sc.names.lookup y).map fun k => if (k == NameKind.free && env.scope.kind == .function && env.kindOf y == some .cell) = true then NameKind.cell else k := fun y => relabel_lookup sc env y
    have hfree : ∀ y, y ∈ freeN sc → sc.names.lookup y = some .free := fun y hy => by
      obtain ⟨⟨y', k⟩, he, rfl⟩ := List.mem_map.mp hy
      obtain ⟨he, hk⟩ := List.mem_filter.mp he
      have hk : k = .free := by simpa using hk
      subst hk
      exact O.uni _ he
    have hfx : ∀ y, sc.names.lookup y = some .free → y ≠ x := fun y hy q => by subst q; rw [O.own] at hy; cases hy
    have hclo : ∀ y ∈ freeN sc, ∃ c, (clOf env.cells sc.names []).lookup y = some c := fun y hy => by
      refine Option.isSome_iff_exists.mp (clOf_has _ _ (.inr ⟨⟨(y, .free), mem_of_lookup' (hfree y hy), rfl, rfl⟩, ?_⟩))
      obtain ⟨c, e⟩ := (hf y hy).2
      rw [e]; rfl
    have hkf : ∀ y, y ∈ freeN sc → (compEnvC sc (clOf env.cells sc.names []) (s1.heap.objs.size + 2) env).kindOf y = some .cell ∨ (compEnvC sc (clOf env.cells sc.names []) (s1.heap.objs.size + 2) env).kindOf y = some .free := fun y hy => by
      rw [hkind, hfree y hy]
      simp only [Option.map_some]
      split
      · exact .inl rfl
      · exact .inr rfl
    have hC0 : h₀.get? (s1.heap.objs.size + 2) = none := S1.fresh (by omega)
    have FB : Fe h₀ (compEnvC sc (clOf env.cells sc.names []) (s1.heap.objs.size + 2) env) (freeV sc vars) { s1 with heap := h₁, toks := s1.toks + ([] : List (Str × Value)).length } (Src sit g1) := by
      refine ⟨O.kind, F.glob, F.bi, ⟨_, hns₁, fun y sv hy hk => ?_⟩, fun y sv hy hk => ?_, fun y c hc => ?_, fun y z c hy hz => ?_, hC0, hnl _ (Nat.le_add_right _ 2)⟩
      · obtain ⟨q1, _⟩ := lk_freeV hy
        rcases hkf y (mem_freeN q1) with q | q <;> (rw [q] at hk; cases hk)
      · obtain ⟨q1, q2⟩ := lk_freeV hy
        have hm := mem_freeN q1
        refine ⟨hkf y hm, ?_⟩
        have hkl : env.kindOf y ≠ some .local := fun q => by rcases (hf y hm).1 with z | z <;> (rw [z] at q; cases q)
        obtain ⟨_, c, v, h2, h3, h4⟩ := F1.cv y sv q2 hkl
        obtain ⟨c', hc'⟩ := hclo y hm
        have := hcells y c' hc'
        rw [h2] at this
        cases this
        exact ⟨c, v, hc', h3.keeps old1, (PB.sc h4).src sit⟩
      · have hc := hcells y c hc
        obtain ⟨⟨v, h1⟩, h2, h3, h4⟩ := F1.cells y c hc
        have := F1.clive hc
        refine ⟨⟨v, h1.keeps old1⟩, Nat.ne_of_lt (Nat.lt_of_lt_of_le this (Nat.le_add_right _ 2)), h3, fun k hk => ?_⟩
        have hr : (Src sit g1).r k = g1.r k := rfl
        rw [hr]; exact h4 k (hlen ▸ hk)
      · exact F.cinj y z c (hcells y c hy) (hcells z c hz)
    have CC : CxOk prog w h₀ lev (cxC cx sc) (compEnvC sc (clOf env.cells sc.names []) (s1.heap.objs.size + 2) env) := by
      refine ⟨fun y hy => ?_, C.u, fun y hy => ⟨hkf y hy, hclo y hy⟩, ⟨?_, ?_⟩, C.γ⟩
      · rw [hkind, show sc.names.lookup y = _ from hy]; rfl
      · rw [hkind, O.dbg]; rfl
      · rw [hkind, O.cd]; rfl
    have loop : codeAny (model prog w) A (.compLoop (.ListComp elt [⟨.Name x px, iter, ifs, 0⟩] sc pos) 0 (.ref s1.heap.objs.size) (.ref (s1.heap.objs.size + 1)) (compEnvC sc (clOf env.cells sc.names []) (s1.heap.objs.size + 2) env))
        (compPost (model prog w) A E use Q (.ref (s1.heap.objs.size + 1)) (s1.heap.objs.size + 2)) { s1 with heap := h₁, toks := s1.toks + ([] : List (Str × Value)).length } := by
      have hW := IT.W A R.hd
      have cellne : ∀ y c a, s1.heap.objs.size ≤ a → (clOf env.cells sc.names []).lookup y = some c → c ≠ a := fun y c a ha hc q => absurd (F1.clive (hcells y c hc)) (Nat.not_lt_of_le (q ▸ ha))
      have size : ∀ a, a < s1.heap.objs.size + 3 → a < h₁.objs.size := fun a ha => by rw [hh1]; exact ha
      refine comp_loop Ek Tk R CC (by rw [hkind, O.own]; rfl) (base := freeV sc vars) ?_ IT PB.ev.tk SB FB (hW.frame _ _ _ st0 fun b _z o' e => old b o' e) (fun b hb => ?_)
        ⟨size _ (by omega), hnl _ (Nat.le_refl _), S1.fresh (Nat.le_refl _), Nat.ne_of_lt (Nat.lt_add_of_pos_right (by decide)), Nat.ne_of_lt (Nat.lt_succ_self _), fun y c hc => cellne y c _ (Nat.le_refl _) hc⟩
        ⟨size _ (by omega), hnl _ (Nat.le_succ _), S1.fresh (Nat.le_succ _), Nat.ne_of_lt (Nat.lt_succ_self _), fun y c hc => cellne y c _ (Nat.le_succ _) hc⟩ pl k1 fun s' g' ys acc P2 pl2 pc2 F2 k2 => ?_
      · cases q : lk x (freeV sc vars) with
        | none => rfl
        | some sv => exact absurd rfl (hfx x (lk_freeV q).1)
      · rcases fpk b hb with rfl | ⟨⟨ob, hob⟩, no, _⟩
        · exact ⟨size _ (by omega), noOwn (hnl _ (Nat.le_refl _)), Nat.ne_of_lt (Nat.lt_add_of_pos_right (by decide)), Nat.ne_of_lt (Nat.lt_succ_self _)⟩
        · have := Heap.lt_size hob
          exact ⟨size _ (Nat.lt_of_lt_of_le this (Nat.le_add_right _ _)), no, Nat.ne_of_lt (Nat.lt_of_lt_of_le this (Nat.le_add_right _ 2)), Nat.ne_of_lt (Nat.lt_succ_of_lt this)⟩
      · have P3 : Po prog w h₀ s1 (Src sit g1) { s1 with heap := h₁, toks := s1.toks + ([] : List (Str × Value)).length } (Src sit g1) NoX := Po.ext (S1.src sit) old1 (by rw [hh1]; omega)
        have P4 := (P3.weak (Y := fun b => b = s1.heap.objs.size ∨ b = s1.heap.objs.size + 1 ∨ b = (compEnvC sc (clOf env.cells sc.names []) (s1.heap.objs.size + 2) env).locals) fun _z q => q.elim).trans' P2
        have nX : ∀ b, (b = s1.heap.objs.size ∨ b = s1.heap.objs.size + 1 ∨ b = (compEnvC sc (clOf env.cells sc.names []) (s1.heap.objs.size + 2) env).locals) → s1.heap.objs.size ≤ b := by
          rintro b (rfl | rfl | rfl)
          · exact Nat.le_refl _
          · exact Nat.le_succ _
          · exact Nat.le_add_right _ _
        have P5 := P4.back S1 el fun m hm q => by
          subst hm
          have hml : m < g1.H.length := by
            unfold itemsOf at el
            dsimp only at el
            split at el
            · rename_i e; exact (List.getElem?_eq_some_iff.mp e).1
            · cases el
          exact absurd (S1.lt hml) (Nat.not_lt_of_le (nX _ q))
        have P6 := P5.dropX nX
        have P7 := P1.trans' P6
        have sz := P1.ev.size
        obtain ⟨m, hm, _⟩ := F2.ns
        refine G s' _ _ _ ys acc m P7 (by omega) (by omega) (by omega) ?_ ?_ (S1.fresh (by omega)) hC0 pl2 pc2 hm k2
        · intro k hk
          exact P2.notNew (size _ (by omega)) (hnl _ (by omega)) k (by rwa [showS_len] at hk)
        · intro k hk
          exact P2.notNew (size _ (by omega)) (hnl _ (by omega)) k (by rwa [showS_len] at hk)
    exact codeAny_compStart_list loop ((IT.W A R.hd).self 0 _ _ _ ((IT.W A R.hd).frame _ _ _ st0 fun b _z o' e => old b o' e) loop)
end
end Mine

namespace Mine
open PySem PySem.W PySem.Calls PyProof.Rows

section
variable {prog : Program} {w : World} {h₀ : Heap} {A : Around} {E : Value → Shared → Prop} {s : Shared} {g : Sg} {Q : Value → Shared → Prop} {n lev : Nat} {env : Env} {cx : Cx} {vars : Vars}
theorem allP_ok {h : Heap} {r : Nat → Addr} {N : Nat} : ∀ {vs : List Value} {svs : List SV} {ps : List PV}, SCs h r N vs svs → allP svs = some ps → PCs h vs ps
  | _, _, _, .nil, e => by cases e; exact .nil
  | _, _, _, .cons c q, e => by
    cases c with
    | p c =>
      simp only [allP] at e
      obtain ⟨ps, h1, rfl⟩ := Option.map_eq_some_iff.mp e
      exact .cons c (allP_ok q h1)
    | _ => simp [allP] at e
set_option tactic.hygienic true in
theorem mkTup_ok {h : Heap} {r : Nat → Addr} {N : Nat} {a : Addr} {o : Obj} {vs : Array Value} {k : Nat} {svs : List SV} (e : h.get? a = some o) (c : o.cls = .type "tuple") (d : o.data = .seq vs k) (q : SCs h r N vs.toList svs) : SC h r N (.ref a) (mkTup svs) := by
  unfold mkTup
  split
  · rename_i ps hp
    exact .p (.tup e c d (allP_ok q hp))
  · exact .tup e c d q
theorem base_of {o : Expr} {nm : Str} {whole : Sem Value} (h : noSuper o = true) : attributeBase o nm env whole = whole := by
  cases o with
  | Call f args kws p =>
    cases hq : name? f with
    | none => cases f <;> first | rfl | (cases hq)
    | some x =>
      obtain ⟨px, rfl⟩ := name_of hq
      cases args with
      | cons _ _ => rfl
      | nil => cases kws with
        | cons _ _ => rfl
        | nil => exact (show False from nomatch h).elim
  | _ => rfl
theorem part_ok (Ek : EOk prog w h₀ lev n) (R : Rm A (lev + 1)) (C : CxOk prog w h₀ lev cx env) {x : Option Expr} {K : Kv} (S : St prog w h₀ s g) (F : Fe h₀ env vars s g) (h : partK (wpE n cx vars) x g.H K) (G : Gives prog w h₀ s g K Q) :
    wpAny (model prog w) A (evalPart x env) Q E s := by
  cases x with
  | none => exact wpAny_pure (G.same S (.p .none) h)
  | some e => exact Ek A env cx vars e s g _ _ E R C S F h G
theorem knownC_evs {f : SV} {fv : Value} {es : List Expr} {args0 : List SV} {first : List Value} {pos : Pos} {K : Kv} (B : Bs w h₀) (Ek : EOk prog w h₀ lev n) (R : Rm A (lev + 1)) (C : CxOk prog w h₀ lev cx env) (S : St prog w h₀ s g) (F : Fe h₀ env vars s g)
    (hp : plainArgs es = true) (hf : knownC cx f = true) (cf : SC s.heap g.r g.H.length fv f) (ca : SCs s.heap g.r g.H.length first args0) (h : evs (wpE n cx vars) es g.H fun vs H2 => wpFun cx f (args0 ++ vs) H2 K) (G : Gives prog w h₀ s g K Q) :
    wpAny (model prog w) A (callWith pos fv first (backTo pos (starEach es env)) []) Q E s := by
  simp only [plainArgs, Bool.and_eq_true] at hp
  refine callWith_ok C hp.2 hf cf (args_ok Ek R C pos fv S F h fun vs svs s1 g1 P1 c1 k1 => ⟨P1.st.keep, ?_⟩)
  refine fun_ok B R C k1 P1.st (P1.sc cf) ?_ (G.after P1)
  have : ∀ {a b : List Value} {x y : List SV}, SCs s1.heap g1.r g1.H.length a x → SCs s1.heap g1.r g1.H.length b y → SCs s1.heap g1.r g1.H.length (a ++ b) (x ++ y) := by
    intro a b x y p q
    induction a generalizing x with
    | nil => cases p; exact q
    | cons _ _ ih => cases p with | cons p1 p2 => exact .cons p1 (ih p2)
  exact this (P1.scs ca) c1
theorem meth_any (B : Bs w h₀) (Ek : EOk prog w h₀ lev n) (R : Rm A (lev + 1)) (C : CxOk prog w h₀ lev cx env) {s : Shared} {g : Sg} (S : St prog w h₀ s g) (F : Fe h₀ env vars s g) {o : Expr} {nm : Str} {ap pos : Pos} {args : List Expr} {K : Kv} {Q : Value → Shared → Prop} {E : Value → Shared → Prop}
    (hb : noSuper o = true) (hp : plainArgs args = true) (hl : (ap.endLine == pos.line) = true) (h : wpE n cx vars o g.H fun ov H1 => methK cx (wpE n cx vars) nm args ov H1 K) (G : Gives prog w h₀ s g K Q) : wpAny (model prog w) A (eval (.Call (.Attribute o nm ap) args [] pos) env) Q E s := by
  show wpAny _ _ (do
    let ov ← attributeBase o nm env (eval o env)
    standAt ap.atName
    methodCall o nm ap pos env ov (args.length + ([] : List Keyword).length) (backTo pos (starEach args env)) (backToKw pos (keywordEach [] env))) _ _ _
  rw [base_of hb]
  refine wpAny_bind (Ek A env cx vars o s g _ _ E R C S F h fun ov so s1 g1 P1 c1 k1 => wpAny_bind (wpAny_standAt ?_))
  have hform : methodCallForm (args.length + ([] : List Keyword).length) (backTo pos (starEach args env)) (backToKw pos (keywordEach [] env)) = true := by
    have hp := hp
    simp only [plainArgs, Bool.and_eq_true, decide_eq_true_eq] at hp
    unfold methodCallForm
    rw [noStar' pos hp.2]
    have e : (backToKw pos (keywordEach [] env)) = [] := rfl
    rw [e]
    simp
    omega
  have hpos : methodCallPos true o env ap pos = pure pos := by unfold methodCallPos; simp [hl]
  unfold methodCall
  rw [hform]
  have e : (backToKw pos (keywordEach [] env)) = [] := rfl
  unfold methK at k1
  cases hf : preMeth so nm g1.H with
  | some f =>
    rw [hf] at k1
    refine wpAny_bind (wpAny_holding (meth_ok B hf P1.st c1 ?_))
    refine wpAny_bind (wpAny_of_eq hpos ?_)
    rw [e]
    exact knownC_evs B Ek R C P1.st (F.keep P1) hp k1.1 (.raw _) (.cons c1 .nil) k1.2 (G.after P1)
  | none =>
    rw [hf] at k1
    cases hid : bmeth so nm g1.H with
    | some id =>
      rw [hid] at k1
      refine wpAny_bind (wpAny_holding (bmeth_ok hid P1.st c1 ?_))
      refine wpAny_bind (wpAny_of_eq hpos ?_)
      rw [e]
      have hp := hp
      simp only [plainArgs, Bool.and_eq_true] at hp
      refine callWith_builtin (noStar pos hp.2) (args_ok Ek R C pos _ P1.st (F.keep P1) k1 fun vs svs s2 g2 P2 c2 k2 => ?_)
      exact m_ok B k2 P2.st (P2.sc c1) c2 (G.after (P1.trans' P2))
    | none =>
      rw [hid] at k1
      exact k1.elim
theorem lc_any (B : Bs w h₀) (Ek : EOk prog w h₀ lev n) (Tk : TOk prog w h₀ lev n) (R : Rm A (lev + 1)) (C : CxOk prog w h₀ lev cx env) {s : Shared} {g : Sg} (S : St prog w h₀ s g) (F : Fe h₀ env vars s g) {elt : Expr} {gg : Comprehension} {sc : Scope} {pos : Pos} {K : Kv} {Q : Value → Shared → Prop} {E : Value → Shared → Prop}
    (h : lcK (wpE n) (wpT n) cx vars elt gg sc g.H K) (G : Gives prog w h₀ s g K Q) : wpAny (model prog w) A (eval (.ListComp elt [gg] sc pos) env) Q E s := by
  obtain ⟨tg, iter, ifs, ia⟩ := gg
  unfold lcK at h
  cases hq : name? tg with
  | none => rw [show name? (Comprehension.mk tg iter ifs ia).target = none from hq] at h; exact h.elim
  | some x =>
    rw [show name? (Comprehension.mk tg iter ifs ia).target = some x from hq] at h
    obtain ⟨px, rfl⟩ := name_of hq
    obtain ⟨h0, h1, h2, h3, h⟩ := h
    have h0 : ia = 0 := of_decide_eq_true h0
    subst h0
    rw [eval_ListComp]
    refine comp_ok (KK := fun acc H => K (.ref H.length) (H ++ [.list acc])) Ek Tk R C S F h1 h2 h3 h none fun s' g' D C' ys acc m P hDC hD hC nD nC hD0 hC0 pl pc hm k => ?_
    refine ⟨m, hm, fun h' sb => ?_⟩
    obtain ⟨o, es, ep, e1, e2, _⟩ := id hm
    have P2 := Po.chg P.st (tk' := s'.toks) sb nC hC0 (fun ob eo => by
      rw [e1] at eo; cases eo
      rintro (⟨_, vs, n, q⟩ | ⟨_, vs, q⟩) <;> (rw [e2] at q; cases q))
    have P3 := (P.trans (P2.weak (Y := fun b => b = C') fun _z q => q) (fun c hc q => absurd hc (by rw [q]; exact Nat.not_lt_of_le hC)))
    obtain ⟨kk, hl⟩ := pl
    have P4 := P3.adopt (a := D) (o := .list acc) hD hD0 nD ⟨ys, kk, (sb.2 D hDC).trans hl, pc.mono P2.ev.tk⟩
    exact G _ _ _ _ P4 (Sg.add_ref ..) k
theorem estep (B : Bs w h₀) (Ek : EOk prog w h₀ lev n) (Tk : TOk prog w h₀ lev n) : EOk prog w h₀ lev (n + 1) := by
  intro A env cx vars e s g K Q E R C S F h G
  rw [wpE_succ] at h
  cases e with
  | Constant c kd pos =>
    have h : constK c (fun v => K (.p v) g.H) := h
    cases c with
    | int _ => exact wpAny_Constant_int (G.tok S _ (.p (.int _ _)) h)
    | str _ => exact wpAny_Constant_str (G.tok S _ (.p (.str _ _)) h)
    | bool _ => exact wpAny_Constant_bool (G.same S (.p (.bool _)) h)
    | none => exact wpAny_Constant_none (G.same S (.p .none) h)
    | _ => exact (show False from h).elim
  | Name x p => exact wpAny_Name (name_ok B C S F h G) (name_dbg C F h)
  | BinOp l op r p => exact wpAny_BinOp (Ek A env cx vars _ s g _ _ E R C S F h fun a sa s1 g1 P1 c1 k1 => Ek A env cx vars _ s1 g1 _ _ E R C P1.st (F.keep P1) k1 fun b sb s2 g2 P2 c2 k2 => bin_ok k2 P2.st (P2.sc c1) c2 (G.after (P1.trans' P2)))
  | UnaryOp op x p =>
    refine wpAny_UnaryOp (Ek A env cx vars _ s g _ _ E R C S F h fun a sa s1 g1 P1 c1 k1 => ?_)
    cases op with
    | USub =>
      cases c1 with
      | p c1 => cases c1 with
        | int _ t => exact PySem.P.neg_int ((G.after P1).tok P1.st _ (.p (.int _ _)) k1)
        | _ => exact (show False from k1).elim
      | _ => exact (show False from k1).elim
    | Not =>
      cases c1 with
      | p c1 => cases c1 with
        | bool _ => exact not_value (wpAny_truthy_bool ((G.after P1).same P1.st (.p (.bool _)) k1))
        | _ => exact (show False from k1).elim
      | _ => exact (show False from k1).elim
    | _ => exact (show False from k1).elim
  | BoolOp op xs p => exact boolK_ok Ek R C _ _ _ s g K Q S F h G
  | Compare l ops rs pos =>
    obtain ⟨hr, h⟩ := h
    show wpAny _ _ (do compareChain pos (← eval l env) ops (markedEach ops rs (evalEach rs env))) _ _ _
    rw [markedEach_plain _ _ _ hr]
    exact wpAny_bind (Ek A env cx vars l s g _ _ E R C S F h fun a sa s1 g1 P1 c1 k1 => chain_ok B Ek R C pos ops rs sa a s1 g1 _ _ P1.st (F.keep P1) c1 k1 fun b s2 g2 P2 k2 => G _ _ s2 g2 (P1.trans' P2) (.p (.bool b)) k2)
  | IfExp t a b p =>
    refine wpAny_IfExp (Tk A env cx vars _ s g _ _ E R C S F h fun b s1 g1 P1 k1 => ?_)
    cases b with
    | true => rw [if_pos rfl] at k1 ⊢; exact Ek A env cx vars _ s1 g1 _ _ E R C P1.st (F.keep P1) k1 (G.after P1)
    | false => rw [if_neg (by decide)] at k1 ⊢; exact Ek A env cx vars _ s1 g1 _ _ E R C P1.st (F.keep P1) k1 (G.after P1)
  | Tuple es kk p =>
    refine wpAny_Tuple (evs_ok Ek R C _ _ s g _ _ S F h fun vs svs s1 g1 P1 c1 k1 => ⟨by rw [c1.length]; exact Nat.le_trans (Nat.le_of_ble_eq_true k1.1) (by decide), ?_⟩)
    have P2 := Po.push P1.st { cls := .type "tuple", data := .seq vs.toArray } s1.toks
    exact G _ _ _ g1 (P1.trans' P2) (mkTup_ok (Heap.get?_push_size _ rfl) rfl rfl (by simpa using P2.scs c1)) k1.2
  | List es p =>
    refine wpAny_List (evs_ok Ek R C _ _ s g _ _ S F h fun vs svs s1 g1 P1 c1 k1 => ?_)
    unfold listK at k1
    cases hp : allP svs with
    | some ps =>
      rw [hp] at k1
      have pc := allP_ok c1 hp
      exact ⟨by rw [pc.length]; exact Nat.le_trans (Nat.le_of_ble_eq_true k1.1) (by decide), (G.after P1).pushList P1.st (tk := s1.toks) (by simpa using pc) k1.2⟩
    | none => rw [hp] at k1; exact k1.elim
  | Dict ks vs p =>
    cases ks with
    | nil =>
      cases vs with
      | nil =>
        refine wpAny_Dict_empty ?_
        have hD : (s.heap.push { cls := .type "dict", data := .dict #[] }).get? s.heap.objs.size = some { cls := .type "dict", data := .dict #[] } := Heap.get?_push_size _ rfl
        refine G _ _ _ _ (Po.add S (a := s.heap.objs.size) (o := .sdict []) (tk' := s.toks) (fun b o e => Heap.get?_push_of_some _ e) (by rw [Heap.size_push]; exact Nat.le_succ _) (Nat.le_refl _) ⟨[], ?_, .nil⟩ (by intro e; cases e)) (Sg.add_ref ..) h
        exact ⟨_, #[], 0, hD, ⟨rfl, rfl, rfl⟩, rfl, by intro e he; simp at he, .nil, .nil⟩
      | cons _ _ => exact (show False from h).elim
    | cons k r => exact dict_ok Ek R C S F h.1 h.2 G
  | Attribute v a pos =>
    obtain ⟨hb, h⟩ := h
    show wpAny _ _ (do
      let o ← attributeBase v a env (eval v env)
      standAt pos.atName
      let r ← holding [o] (getAttr o a true)
      letTemporaryGo v o r
      pure r) _ _ _
    rw [base_of hb]
    refine wpAny_bind (Ek A env cx vars v s g _ _ E R C S F h fun o so s1 g1 P1 c1 k1 => wpAny_bind (wpAny_standAt (wpAny_bind (wpAny_holding (attr_ok B k1 P1.st c1 fun r sr s2 g2 P2 c2 k2 => ?_)))))
    exact wpAny_bind (wpAny_letTemporaryGo (wpAny_pure (G r sr s2 g2 (P1.trans' P2) c2 k2)))
  | Subscript v i p =>
    have h : subK (wpE n cx vars) v i g.H K := h
    unfold subK at h
    cases hq : slice? i with
    | none =>
      rw [hq] at h
      refine sub_any (Ek A env cx vars _ s g _ _ E R C S F h fun o so s1 g1 P1 c1 k1 => Ek A env cx vars _ s1 g1 _ _ E R C P1.st (F.keep P1) k1 fun i si s2 g2 P2 c2 k2 => ?_)
      exact ⟨SC.subT P2.st k2 (P2.sc c1), get_ok k2 P2.st (P2.sc c1) c2 (G.after (P1.trans' P2))⟩
    | some q =>
      obtain ⟨lo, hi, st⟩ := q
      rw [hq] at h
      cases st with
      | some _ => exact (show False from h).elim
      | none =>
        obtain ⟨p', rfl⟩ := slice_of hq
        refine sub_any (Ek A env cx vars _ s g _ _ E R C S F h fun o so s1 g1 P1 c1 k1 => ?_)
        refine wpAny_Slice (part_ok Ek R C P1.st (F.keep P1) k1 fun l sl s2 g2 P2 c2 k2 => part_ok Ek R C P2.st ((F.keep P1).keep P2) k2 fun u su s3 g3 P3 c3 k3 => ?_)
        unfold cutK at k3
        cases h1 : partOf sl with
        | none => rw [h1] at k3; exact (show False from k3).elim
        | some lo =>
          rw [h1] at k3
          cases h2 : partOf su with
          | none => rw [h2] at k3; exact (show False from k3).elim
          | some hi =>
          rw [h2] at k3
          refine wpAny_pure ?_
          have P12 := P2.trans' P3
          have co := P12.sc c1
          have P4 := Po.push P3.st { cls := .type "slice", data := .fields #[l, u, .none] } s3.toks
          exact ⟨SC.cutT P4.st k3 (P4.sc co), cut_ok k3 P3.st co ((P3.sc c2).part h1) (c3.part h2) (G.after (P1.trans' P12))⟩

  | Call f args kws pos =>
    cases kws with
    | cons _ _ => exact (show False from h).elim
    | nil =>
    have h : callK cx (wpE n cx vars) f args pos g.H K := h
    unfold callK at h
    cases hq : attr? f with
    | some q =>
      obtain ⟨o, nm, ap⟩ := q
      rw [hq] at h
      have hf := attr_of hq
      subst hf
      obtain ⟨hb, hp, hl, h⟩ := h
      exact meth_any B Ek R C S F hb hp hl h G
    | none =>
      rw [hq] at h
      obtain ⟨hp, h⟩ := h
      have e : eval (.Call f args [] pos) env = (do callWith pos (← eval f env) [] (backTo pos (starEach args env)) []) := by
        cases f <;> first | rfl | cases hq
      rw [e]
      refine wpAny_bind (Ek A env cx vars f s g _ _ E R C S F h fun fv sf s1 g1 P1 c1 k1 => ?_)
      exact knownC_evs B Ek R C P1.st (F.keep P1) hp k1.1 c1 .nil k1.2 (G.after P1)
  | ListComp elt gs sc p =>
    cases gs with
    | nil => exact (show False from h).elim
    | cons gg r =>
      cases r with
      | cons _ _ => exact (show False from h).elim
      | nil => exact lc_any B Ek Tk R C S F h G
  | _ => exact (show False from h).elim
theorem tstep (B : Bs w h₀) (Ek : EOk prog w h₀ lev n) (Tk : TOk prog w h₀ lev n) : TOk prog w h₀ lev (n + 1) := by
  intro A env cx vars e s g K Q E R C S F h G
  rw [wpT_succ] at h
  have gen : ∀ e, (wpE n cx vars e g.H fun v H1 => boolV v H1 K) → isTrue e env (eval e env) = (do let v ← eval e env; standAt e.pos; holding [v] (truthy v)) → wpAny (model prog w) A (isTrue e env (eval e env)) Q E s := fun e h q => by
    refine wpAny_isTrue_value (Ek A env cx vars e s g _ _ E R C S F h fun a sa s1 g1 P1 c1 k1 => ?_) q
    cases c1 with
    | p c1 => cases c1 with
      | bool _ => exact wpAny_truthy_bool (G _ s1 g1 P1 k1)
      | _ => exact (show False from k1).elim
    | _ => exact (show False from k1).elim
  cases e with
  | UnaryOp op x pos =>
    cases op with
    | Not => exact wpAny_isTrue_Not (Tk A env cx vars x s g _ _ E R C S F h fun b s1 g1 P1 k1 => G _ s1 g1 P1 k1)
    | _ => exact gen _ h rfl
  | BoolOp op xs p => exact wpAny_isTrue_BoolOp (boolT_ok Tk R C _ _ s g K Q S F h G)
  | IfExp t a b pos =>
    show wpAny _ _ (do if ← isTrue t env (eval t env) then isTrue a env (eval a env) else isTrue b env (eval b env)) _ _ _
    refine wpAny_bind (Tk A env cx vars t s g _ _ E R C S F h fun b s1 g1 P1 k1 => ?_)
    cases b with
    | true => rw [if_pos rfl] at k1 ⊢; exact Tk A env cx vars _ s1 g1 _ _ E R C P1.st (F.keep P1) k1 (G.after P1)
    | false => rw [if_neg (by decide)] at k1 ⊢; exact Tk A env cx vars _ s1 g1 _ _ E R C P1.st (F.keep P1) k1 (G.after P1)
  | Compare l ops rs pos =>
    obtain ⟨hr, h⟩ := h
    show wpAny _ _ (do testChain pos (← eval l env) ops (markedEach ops rs (evalEach rs env))) _ _ _
    rw [markedEach_plain _ _ _ hr]
    exact wpAny_bind (Ek A env cx vars l s g _ _ E R C S F h fun a sa s1 g1 P1 c1 k1 => tchain_ok B Ek R C pos ops rs sa a s1 g1 _ _ P1.st (F.keep P1) c1 k1 fun b s2 g2 P2 k2 => G _ s2 g2 (P1.trans' P2) k2)
  | _ => exact gen _ h rfl
theorem all_ok (B : Bs w h₀) : ∀ n : Nat, EOk prog w h₀ lev n ∧ TOk prog w h₀ lev n
  | 0 => ⟨fun _z _z _z _z _z _z _z _z _z _z _z _z _z _z h _z => h.elim, fun _z _z _z _z _z _z _z _z _z _z _z _z _z _z h _z => h.elim⟩
  | n + 1 => ⟨estep B (all_ok B n).1 (all_ok B n).2, tstep B (all_ok B n).1 (all_ok B n).2⟩
end
end Mine

namespace Mine
open PySem PySem.W PySem.Calls PyProof.Rows

inductive FL where
  | nx
  | ct
  | bk
  | rt (v : SV)
noncomputable abbrev KS := FL → Vars → AH → Prop
noncomputable def namesOf : List Expr → Option (List Str)
  | [] => some []
  | e :: r => (match name? e with
    | some x => (namesOf r).map (x :: ·)
    | none => none)
noncomputable def psv : List PV → List SV
  | [] => []
  | x :: r => .p x :: psv r
theorem psv_e1 : psv [] = [] := rfl
theorem psv_e2 {x : PV} {r : List PV} : psv (x :: r) = .p x :: psv r := rfl
noncomputable def partsOf : SV → Option (List SV)
  | .p (.tup l) => some (psv l)
  | .tup l => some l
  | _ => none
noncomputable def ndupS : List Str → Bool
  | [] => true
  | a :: r => !r.contains a && ndupS r
noncomputable def puts : List Str → List SV → Vars → Vars
  | x :: xs, v :: vs, a => puts xs vs (put x v a)
  | _, _, a => a
theorem puts_e {x : Str} {xs : List Str} {v : SV} {vs : List SV} {a : Vars} : puts (x :: xs) (v :: vs) a = puts xs vs (put x v a) := rfl
noncomputable def tupK (st : List Str) (elts : List Expr) (v : SV) (vars : Vars) (H : AH) (K : Vars → AH → Prop) : Prop := asSome (namesOf elts) fun xs => asSome (partsOf v) fun vs => ndupS xs = true ∧ subS xs st = true ∧ xs.length = vs.length ∧ K (puts xs vs vars) H
noncomputable def assignK (E : Ev1) (st : List Str) (t : Expr) (v : SV) (vars : Vars) (H : AH) (K : Vars → AH → Prop) : Prop := match t with
  | .Name x _ => st.contains x = true ∧ K (put x v vars) H
  | .Attribute o a _ => E o H fun ov H1 => preSetAttr ov a v H1 fun H2 => K vars H2
  | .Subscript o i _ => E o H fun ov H1 => E i H1 fun iv H2 => preSet ov iv v H2 fun H3 => K vars H3
  | .Tuple elts _ _ => tupK st elts v vars H K
  | _ => False
noncomputable def augOk (op : Operator) (a b : SV) : Bool := match op with
  | .Add => (match a with
    | .p a => (match b with
      | .p b => (match a with
        | .int _ => (match b with
          | .int _ => true
          | _ => false)
        | .str _ => (match b with
          | .str _ => true
          | _ => false)
        | _ => false)
      | _ => false)
    | _ => false)
  | _ => false
noncomputable def notComp : Expr → Bool
  | .ListComp .. => false
  | .SetComp .. => false
  | .DictComp .. => false
  | _ => true
noncomputable def oneC? : Expr → Bool
  | .ListComp _ gs _ _ => (match gs with
    | [] => false
    | g :: r => (match r with
      | [] => (name? g.target).isSome && decide (g.is_async = 0)
      | _ :: _ => false))
  | _ => false
noncomputable def tupOk : Expr → Bool
  | .Tuple vs _ _ => vs.all (foldedForSure 8) || !vs.all (constantsAlone 8)
  | _ => true
noncomputable def swOk (t e : Expr) : Bool := match t with
  | .Tuple .. => notComp e && tupOk e
  | .Name .. => notComp e || oneC? e
  | _ => notComp e
noncomputable def refsH : AH → Nat → List Nat
  | o :: r, n + 1 => o.refs ++ refsH r n
  | _, _ => []
noncomputable def upTo : Nat → List Nat
  | 0 => []
  | n + 1 => upTo n ++ [n]
noncomputable def gcL (N : Nat) (l : List Nat) (H : AH) : List Nat := reachF H 400 (refsH H N ++ l) (upTo N)
noncomputable def gcK (N : Nat) (vars : Vars) (H : AH) (K : Vars → AH → Prop) : Prop := closed (gcL N (refsF vars) H) H = true ∧ subN (refsF vars) (gcL N (refsF vars) H) = true ∧ K (mapF (ix (gcL N (refsF vars) H)) vars) (sel (gcL N (refsF vars) H) H)
noncomputable abbrev Bv := Vars → List Stmt → AH → KS → Prop
noncomputable def turnK (N : Nat) (vars : Vars) (K : KS) (next : Vars → AH → Prop) : KS := fun fl vars2 H2 => match fl with
  | .nx => gcK N (vars2.take vars.length) H2 next
  | .ct => gcK N (vars2.take vars.length) H2 next
  | .bk => K .nx vars2 H2
  | .rt v => K (.rt v) vars2 H2
noncomputable def seqK (W : Bv) (r : List Stmt) (K : KS) : KS := fun fl vars2 H2 => match fl with
  | .nx => W vars2 r H2 K
  | .ct => K .ct vars2 H2
  | .bk => K .bk vars2 H2
  | .rt v => K (.rt v) vars2 H2
noncomputable def forK (S : Bv) (x : Str) (body : List Stmt) (N : Nat) : List PV → Vars → AH → KS → Prop
  | [], vars, H, K => K .nx vars H
  | i :: r, vars, H, K => S (put x (.p i) vars) body H (turnK N vars K fun vars3 H3 => forK S x body N r vars3 H3 K)
theorem forK_e {S : Bv} {x : Str} {body : List Stmt} {N : Nat} {i : PV} {r : List PV} {vars : Vars} {H : AH} {K : KS} : forK S x body N (i :: r) vars H K = S (put x (.p i) vars) body H (turnK N vars K fun vars3 H3 => forK S x body N r vars3 H3 K) := rfl
noncomputable def whileK (T : Vars → Tv1) (S : Bv) (test : Expr) (body : List Stmt) (N : Nat) : Nat → Vars → AH → KS → Prop
  | 0, _, _, _ => False
  | m + 1, vars, H, K => T vars test H fun b H1 => if b = true then S vars body H1 (turnK N vars K fun vars3 H3 => whileK T S test body N m vars3 H3 K) else K .nx vars H1
theorem whileK_e {T : Vars → Tv1} {S : Bv} {test : Expr} {body : List Stmt} {N m : Nat} {vars : Vars} {H : AH} {K : KS} : whileK T S test body N (m + 1) vars H K = T vars test H fun b H1 => if b = true then S vars body H1 (turnK N vars K fun vars3 H3 => whileK T S test body N m vars3 H3 K) else K .nx vars H1 := rfl
noncomputable def valI : Value → Int
  | .int i _ => i
  | _ => 0
noncomputable def spL : List (Int × Int) := spE.map fun e => (e.1, valI e.2.2)
noncomputable def forK2 (S : Bv) (a b : Str) (body : List Stmt) (N : Nat) : List (Int × Int) → Vars → AH → KS → Prop
  | [], vars, H, K => K .nx vars H
  | ij :: r, vars, H, K => S (put b (.p (.int ij.2)) (put a (.p (.int ij.1)) vars)) body H (turnK N vars K fun vars3 H3 => forK2 S a b body N r vars3 H3 K)
theorem forK2_e {S : Bv} {a b : Str} {body : List Stmt} {N : Nat} {ij : Int × Int} {r : List (Int × Int)} {vars : Vars} {H : AH} {K : KS} : forK2 S a b body N (ij :: r) vars H K = S (put b (.p (.int ij.2)) (put a (.p (.int ij.1)) vars)) body H (turnK N vars K fun vars3 H3 => forK2 S a b body N r vars3 H3 K) := rfl
noncomputable def rawK (v : SV) (a : Addr) (P : Prop) : Prop := match v with
  | .raw (.ref b) => a = b ∧ P
  | _ => False
noncomputable def two? : Expr → Option (Str × Str)
  | .Tuple es _ _ => (match es with
    | [x, y] => (match name? x with
      | some a => (match name? y with
        | some b => some (a, b)
        | none => none)
      | none => none)
    | _ => none)
  | _ => none
noncomputable def items? : Expr → Option (Str × Str × Pos × Pos)
  | .Call f [] [] cp => (match attr? f with
    | some (o, m, ap) => (match name? o with
      | some d => some (d, m, ap, cp)
      | none => none)
    | none => none)
  | _ => none
noncomputable def TwoN (a b : Str) (e : Expr) : Prop := ∃ pa pb k p, e = .Tuple [.Name a pa, .Name b pb] k p
theorem two_of {e : Expr} {a b : Str} (h : two? e = some (a, b)) : TwoN a b e := by
  cases e with
  | Tuple es k p =>
    rcases es with _ | ⟨x, _ | ⟨y, _ | ⟨z, r⟩⟩⟩
    · exact noS h
    · exact noS h
    · unfold two? at h
      dsimp only at h
      cases q1 : name? x with
      | none => rw [q1] at h; exact noS h
      | some a' =>
        rw [q1] at h
        obtain ⟨pa, rfl⟩ := name_of q1
        cases q2 : name? y with
        | none => rw [q2] at h; exact noS h
        | some b' =>
          rw [q2] at h
          cases h
          obtain ⟨pb, rfl⟩ := name_of q2
          exact ⟨pa, pb, k, p, rfl⟩
    · exact noS h
  | _ => exact noS h
noncomputable def ItemsN (d m : Str) (ap cp : Pos) (e : Expr) : Prop := ∃ pd, e = .Call (.Attribute (.Name d pd) m ap) [] [] cp
theorem items_of {e : Expr} {d m : Str} {ap cp : Pos} (h : items? e = some (d, m, ap, cp)) : ItemsN d m ap cp e := by
  cases e with
  | Call f args kws p =>
    cases args with
    | cons _ _ => exact noS h
    | nil => cases kws with
      | cons _ _ => exact noS h
      | nil =>
        unfold items? at h
        dsimp only at h
        cases q1 : attr? f with
        | none => rw [q1] at h; exact noS h
        | some q =>
          obtain ⟨o, m', ap'⟩ := q
          rw [q1] at h
          obtain rfl := attr_of q1
          cases q2 : name? o with
          | none => dsimp only at h; rw [q2] at h; exact noS h
          | some d' =>
            dsimp only at h
            rw [q2] at h
            cases h
            obtain ⟨pd, rfl⟩ := name_of q2
            exact ⟨pd, rfl⟩
  | _ => exact noS h
noncomputable def augNK (E : Vars → Ev1) (st : List Str) (vars : Vars) (x : Str) (op : Operator) (value : Expr) (H : AH) (K : KS) : Prop := match lk x vars with
  | some old => st.contains x = true ∧ E vars value H fun v H1 => augOk op old v = true ∧ preBin op old v H1 fun r H2 => K .nx (put x r vars) H2
  | none => False
noncomputable def augK (E : Vars → Ev1) (st : List Str) (vars : Vars) (t : Expr) (op : Operator) (value : Expr) (H : AH) (K : KS) : Prop := match name? t with
  | some x => augNK E st vars x op value H K
  | none => (match attr? t with
    | some (o, a, _) => E vars o H fun ov H1 => preAttr ov a H1 fun old H2 => E vars value H2 fun v H3 => augOk op old v = true ∧ preBin op old v H3 fun r H4 => preSetAttr ov a r H4 fun H5 => K .nx vars H5
    | none => False)
noncomputable def forS (E : Vars → Ev1) (S : Bv) (st : List Str) (vars : Vars) (t it : Expr) (body : List Stmt) (H : AH) (K : KS) : Prop := match name? t with
  | some x => notSet it = true ∧ st.contains x = true ∧ E vars it H fun i H1 => ∃ l, itemsOf i H1 = some l ∧ forK S x body H1.length l vars (hideS i H1) fun fl vars2 H2 => K fl vars2 (showS i l H2)
  | none => (match two? t with
    | some (a, b) => (match items? it with
      | some (d, m, ap, cp) => m = sn "items" ∧ (ap.endLine == cp.line) = true ∧ ndupS [a, b] = true ∧ subS [a, b] st = true ∧ (lk d vars).isNone = true ∧
          E vars (.Name d ap) H fun dv H1 => rawK dv 127 (∃ l, l = spL ∧ forK2 S a b body H.length l vars H K)
      | none => False)
    | none => False)
noncomputable def stepS (E : Vars → Ev1) (T : Vars → Tv1) (S : Bv) (st : List Str) (vars : Vars) (c : Stmt) (H : AH) (K : KS) : Prop := match c with
  | .Expr e _ => notComp e = true ∧ E vars e H fun _z H1 => K .nx vars H1
  | .Return v _ => (match v with
    | none => K (.rt (.p .none)) vars H
    | some e => E vars e H fun v H1 => K (.rt v) vars H1)
  | .Assign ts value _ => (match ts with
    | [] => False
    | t :: r => (match r with
      | [] => swOk t value = true ∧ E vars value H fun v H1 => assignK (E vars) st t v vars H1 fun vars2 H2 => K .nx vars2 H2
      | _ :: _ => False))
  | .AugAssign t op value _ => augK E st vars t op value H K
  | .If t a b _ => T vars t H fun c H1 => if c = true then S vars a H1 K else S vars b H1 K
  | .While t body els _ => (match els with
    | [] => ∃ m, whileK T S t body H.length m vars H K
    | _ :: _ => False)
  | .For t it body els _ => (match els with
    | [] => forS E S st vars t it body H K
    | _ :: _ => False)
  | .Try body hs els fin _ => (match hs with
    | [] => False
    | _ :: _ => (match els with
      | [] => (match fin with
        | [] => S vars body H K
        | _ :: _ => False)
      | _ :: _ => False))
  | .Pass _ => K .nx vars H
  | .Break _ => K .bk vars H
  | .Continue _ => K .ct vars H
  | _ => False
noncomputable def wpS : Nat → Cx → List Str → Bv
  | 0, _, _, _, _, _, _ => False
  | n + 1, cx, st, vars, b, H, K => match b with
    | [] => K .nx vars H
    | c :: r => stepS (wpE 20 cx) (wpT 20 cx) (wpS n cx st) st vars c H (seqK (wpS n cx st) r K)
noncomputable def endK (N : Nat) (fl : FL) (H : AH) (K : Kv) : Prop :=
  let v : SV := match fl with
    | .rt v => v
    | _ => .p .none
  closed (gcL N v.refs H) H = true ∧ subN v.refs (gcL N v.refs H) = true ∧ K (v.map (ix (gcL N v.refs H))) (sel (gcL N v.refs H) H)

section
variable (prog : Program) (w : World) (h₀ : Heap)
noncomputable def FlC (s : Shared) (g : Sg) : Flow → FL → Prop
  | .next, .nx => True
  | .cont, .ct => True
  | .brk, .bk => True
  | .ret v, .rt sv => SC s.heap g.r g.H.length v sv
  | _, _ => False
noncomputable def GivesS (env : Env) (s : Shared) (g : Sg) (K : KS) (Q : Flow → Shared → Prop) : Prop := ∀ f fl vars s' g', FlC s' g' f fl → Po prog w h₀ s g s' g' (XF env) → Fe h₀ env vars s' g' → K fl vars g'.H → Q f s'
structure StOk (env : Env) (st : List Str) : Prop where
  s : ∀ x, x ∈ st → env.kindOf x = some .local ∨ (env.kindOf x = some .cell ∧ ∃ a, env.cells.lookup x = some a)
noncomputable def SOk (lev n : Nat) : Prop := ∀ (A : Around) (env : Env) (cx : Cx) (st : List Str) (vars : Vars) (body : List Stmt) (s : Shared) (g : Sg) (K : KS) (Q : Flow → Shared → Prop) (E : Value → Shared → Prop),
  Rm A (lev + 1) → CxOk prog w h₀ lev cx env → StOk env st → St prog w h₀ s g → Fe h₀ env vars s g → wpS n cx st vars body g.H K → GivesS prog w h₀ env s g K Q → wpAny (model prog w) A (execs body env) Q E s
end
section
variable {prog : Program} {w : World} {h₀ : Heap} {A : Around} {E : Value → Shared → Prop} {s : Shared} {g : Sg} {n lev : Nat} {env : Env} {cx : Cx} {vars : Vars} {st : List Str}
theorem GivesS.after {K : KS} {Q : Flow → Shared → Prop} {s' : Shared} {g' : Sg} (G : GivesS prog w h₀ env s g K Q) (P : Po prog w h₀ s g s' g' (XF env)) : GivesS prog w h₀ env s' g' K Q := fun f fl vs s2 g2 c P2 F k => G f fl vs s2 g2 c (P.trans' P2) F k
theorem Po.xf {s' : Shared} {g' : Sg} (P : Po prog w h₀ s g s' g' NoX) : Po prog w h₀ s g s' g' (XF env) := P.weak fun _z q => q.elim
theorem Po.xs {s' : Shared} {g' : Sg} {x : Str} (P : Po prog w h₀ s g s' g' (XS env x)) : Po prog w h₀ s g s' g' (XF env) := P.weak fun _z q => q.xf
theorem put_lk {x z : Str} {v : SV} : lk z (put x v vars) = if z = x then some v else lk z vars := lk_put x z v vars
theorem psv_len : ∀ l : List PV, (psv l).length = l.length
  | [] => rfl
  | _ :: r => by simp [psv, psv_len r]
theorem psv_sc {h : Heap} {r : Nat → Addr} {N : Nat} {vs : List Value} {l : List PV} (q : PCs h vs l) : SCs h r N vs (psv l) := q.ind (M := fun vs l => SCs h r N vs (psv l)) .nil fun _z _z _z _z a _z ih => .cons (.p a) ih
theorem SC.tupS_of {h : Heap} {r : Nat → Addr} {N : Nat} {v : Value} {l : List SV} (c : SC h r N v (.tup l)) : ∃ (a : Addr) (o : Obj) (vs : Array Value) (n : Nat), v = .ref a ∧ h.get? a = some o ∧ o.cls = .type "tuple" ∧ o.data = .seq vs n ∧ SCs h r N vs.toList l := by
  cases c with | tup e1 c1 d1 q1 => exact ⟨_, _, _, _, rfl, e1, c1, d1, q1⟩
theorem parts_ok {h : Heap} {r : Nat → Addr} {N : Nat} {v : Value} {x : SV} {l : List SV} (c : SC h r N v x) (e : partsOf x = some l) : ∃ a vs, v = .ref a ∧ IsTup h a vs ∧ SCs h r N vs.toList l := by
  cases x with
  | p x => cases x with
    | tup _ =>
      cases e
      obtain ⟨_, _, _, _, rfl, e1, c1, d1, q⟩ := c.tup_of
      exact ⟨_, _, rfl, ⟨_, e1, c1, _, d1⟩, psv_sc q⟩
    | _ => exact noS e
  | tup _ =>
    cases e
    obtain ⟨_, _, _, _, rfl, e1, c1, d1, q⟩ := c.tupS_of
    exact ⟨_, _, rfl, ⟨_, e1, c1, _, d1⟩, q⟩
  | _ => exact noS e
theorem lk_puts {z : Str} : ∀ {xs : List Str} {vs : List SV} {a : Vars}, ndupS xs = true → lk z (puts xs vs a) = match (xs.zip vs).lookup z with
    | some v => some v
    | none => lk z a
  | [], vs, a, _ => by cases vs <;> rfl
  | x :: xs, [], a, _ => rfl
  | x :: xs, v :: vs, a, h => by
    simp only [ndupS, Bool.and_eq_true, Bool.not_eq_true'] at h
    simp only [puts_e, List.zip_cons_cons, List.lookup_cons]
    rw [lk_puts h.2, put_lk]
    by_cases q : z = x
    · subst q
      have : (xs.zip vs).lookup z = none := by
        have hn : ¬ z ∈ xs := fun q => by rw [List.contains_iff_mem.mpr q] at h; cases h.1
        clear h
        induction xs generalizing vs with
        | nil => simp
        | cons y xs ih =>
          cases vs with
          | nil => simp
          | cons u vs =>
            simp only [List.zip_cons_cons, List.lookup_cons]
            rw [beq_eq_false_iff_ne.mpr fun (q : z = y) => hn (by rw [q]; exact .head _)]
            exact ih vs (fun q => hn (.tail _ q))
      simp [this]
    · rw [if_neg q, beq_eq_false_iff_ne.mpr q]
theorem ndupS_nodup : ∀ {xs : List Str}, ndupS xs = true → xs.Nodup
  | [], _ => .nil
  | a :: r, e => by
    simp only [ndupS, Bool.and_eq_true, Bool.not_eq_true', ← Bool.not_eq_true, List.contains_iff_mem] at e
    exact List.nodup_cons.mpr ⟨e.1, ndupS_nodup e.2⟩
theorem nodup_ndupS : ∀ {xs : List Str}, xs.Nodup → ndupS xs = true
  | [], _ => rfl
  | a :: r, e => by
    simp only [ndupS, Bool.and_eq_true, Bool.not_eq_true', ← Bool.not_eq_true, List.contains_iff_mem]
    exact ⟨(List.nodup_cons.mp e).1, nodup_ndupS (List.nodup_cons.mp e).2⟩
theorem lookup_iff {α : Type} {z : Str} {v : α} : ∀ {l : List (Str × α)}, (l.map (·.1)).Nodup → (l.lookup z = some v ↔ (z, v) ∈ l)
  | [], _ => by simp
  | (y, u) :: r, h => by
    simp only [List.map_cons, List.nodup_cons] at h
    rw [List.lookup_cons]
    by_cases q : z = y
    · subst q
      simp only [beq_self_eq_true, List.mem_cons, Prod.mk.injEq, true_and]
      refine ⟨fun e => .inl (Option.some.inj e).symm, fun e => ?_⟩
      rcases e with e | e
      · rw [e]
      · exact absurd (List.mem_map_of_mem (f := (·.1)) e) h.1
    · rw [beq_eq_false_iff_ne.mpr q, List.mem_cons]
      refine (lookup_iff h.2).trans ⟨.inr, fun e => e.resolve_left fun e => q (congrArg Prod.fst e)⟩
theorem zip_map_fst : ∀ {xs : List Str} {vs : List SV}, xs.length = vs.length → (xs.zip vs).map (·.1) = xs
  | [], [], _ => rfl
  | _ :: xs, _ :: vs, h => by simp only [List.zip_cons_cons, List.map_cons]; rw [zip_map_fst (by simpa using h)]
  | [], _ :: _, h => by simp at h
  | _ :: _, [], h => by simp at h
theorem puts_rev {z : Str} {xs : List Str} {vs : List SV} (h : ndupS xs = true) (hl : xs.length = vs.length) : lk z (puts xs.reverse vs.reverse vars) = lk z (puts xs vs vars) := by
  have nd := ndupS_nodup h
  rw [lk_puts h, lk_puts (nodup_ndupS ((List.reverse_perm xs).nodup_iff.mpr nd))]
  have e : (xs.reverse.zip vs.reverse).lookup z = (xs.zip vs).lookup z := by
    rw [List.zip_eq_zipWith, List.zip_eq_zipWith, ← List.reverse_zipWith hl, ← List.zip_eq_zipWith]
    have n1 : ((xs.zip vs).map (·.1)).Nodup := by rw [zip_map_fst hl]; exact nd
    have n2 : (((xs.zip vs).reverse).map (·.1)).Nodup := by rw [List.map_reverse]; exact (List.reverse_perm _).nodup_iff.mpr n1
    cases q : (xs.zip vs).lookup z with
    | some v => exact (lookup_iff n2).mpr (List.mem_reverse.mpr ((lookup_iff n1).mp q))
    | none =>
      cases q2 : ((xs.zip vs).reverse).lookup z with
      | none => rfl
      | some v =>
        have := (lookup_iff n1).mpr (List.mem_reverse.mp ((lookup_iff n2).mp q2))
        rw [q] at this; cases this
  rw [e]
inductive Stores (prog : Program) (w : World) (env : Env) : List (Value → Sem Unit) → List Str → Prop
  | nil : Stores prog w env [] []
  | cons {t : Value → Sem Unit} {x : Str} {ts : List (Value → Sem Unit)} {xs : List Str} : (∀ (A : Around) (E : Value → Shared → Prop) (Q : Unit → Shared → Prop) (s : Shared) (v : Value), wpAny (model prog w) A (storeName env x v) Q E s → wpAny (model prog w) A (t v) Q E s) → Stores prog w env ts xs → Stores prog w env (t :: ts) (x :: xs)
theorem SCs.rev {h : Heap} {r : Nat → Addr} {N : Nat} {vs : List Value} {l : List SV} (c : SCs h r N vs l) : SCs h r N vs.reverse l.reverse := by
  have app : ∀ {a b : List Value} {x y : List SV}, SCs h r N a x → SCs h r N b y → SCs h r N (a ++ b) (x ++ y) := fun {a b x y} p q => p.ind (M := fun a x => SCs h r N (a ++ b) (x ++ y)) q fun _z _z _z _z a _z ih => .cons a ih
  exact c.ind (M := fun vs l => SCs h r N vs.reverse l.reverse) .nil fun _z _z _z _z a _z ih => by
    rw [List.reverse_cons, List.reverse_cons]; exact app ih (.cons a .nil)
theorem inOrder_ok (T : StOk env st) : ∀ (ts : List (Value → Sem Unit)) (xs : List Str) (vals : List Value) (svs : List SV) (vars : Vars) (s : Shared) (Q : Unit → Shared → Prop), Stores prog w env ts xs → (∀ x ∈ xs, x ∈ st) → xs.length = svs.length →
    SCs s.heap g.r g.H.length vals svs → St prog w h₀ s g → Fe h₀ env vars s g → (∀ s', Po prog w h₀ s g s' g (XF env) → Fe h₀ env (puts xs svs vars) s' g → Q () s') → wpAny (model prog w) A (assignInOrder ts vals) Q E s := by
  intro ts xs vals svs vars s Q q
  induction q generalizing vals svs vars s with
  | nil =>
    intro hx hl cs S F h
    cases svs with
    | cons _ _ => exact (nomatch hl)
    | nil =>
      obtain rfl := cs.unnil
      exact wpAny_pure (h s (Po.refl S _) F)
  | cons ht q ih =>
    intro hx hl cs S F h
    cases svs with
    | nil => exact (nomatch hl)
    | cons sv svs =>
      obtain ⟨v, vals, rfl, c, cs⟩ := cs.uncons
      show wpAny _ _ (do holding _ (_ : Sem Unit); assignInOrder _ _) _ _ _
      refine wpAny_bind (wpAny_holding (ht _ _ _ _ _ (store_ok S F c (T.s _ (hx _ (.head _))) fun s1 P1 F1 => ?_)))
      exact ih _ _ _ s1 (fun x hm => hx x (.tail _ hm)) (Nat.succ.inj hl) (P1.scs cs) P1.st F1 fun s2 P2 F2 => h s2 (P1.xs.trans' P2) F2
theorem names_each {elts : List Expr} : ∀ {xs : List Str}, namesOf elts = some xs → (assignEach elts env).length = xs.length ∧ (assignEach elts env).findIdx? (·.1) = none ∧ Stores prog w env ((assignEach elts env).map (·.2)) xs := by
  induction elts with
  | nil => intro xs h; cases h; exact ⟨rfl, rfl, .nil⟩
  | cons e r ih =>
    intro xs h
    cases q : name? e with
    | none => unfold namesOf at h; rw [q] at h; exact noS h
    | some x =>
      unfold namesOf at h
      rw [q] at h
      obtain ⟨p, rfl⟩ := name_of q
      obtain ⟨ys, h1, rfl⟩ := Option.map_eq_some_iff.mp h
      obtain ⟨a, b, c⟩ := ih h1
      have e : assignEach (.Name x p :: r) env = (false, assign (.Name x p) env) :: assignEach r env := rfl
      rw [e]
      refine ⟨congrArg (· + 1) a, ?_, .cons (fun A E Q s v hw => wpAny_assign_Name hw) c⟩
      rw [List.findIdx?_cons, b]; rfl
theorem items_ok {a : Addr} {vs : Array Value} {k : Nat} {Q : List Value → Shared → Prop} (hh : A.handled = none) (ht : IsTup s.heap a vs) (hk : k = vs.size) (S : St prog w h₀ s g) (h : ∀ s', Po prog w h₀ s g s' g NoX → Q vs.toList s') :
    wpAny (model prog w) A (unpackItems (.ref a) k none) Q E s := by
  subst hk
  refine wpAny_with_size (PyProof.Rows.unpackItems_tuple hh ht fun h' he hz => ?_)
  exact h _ (Po.ext S (tk' := s.toks) (fun b o e => he b o (Nat.ne_of_lt (Heap.lt_size e)) e) hz)
theorem assign_ok (B : Bs w h₀) {m : Nat} (Ek : EOk prog w h₀ lev m) (R : Rm A (lev + 1)) (C : CxOk prog w h₀ lev cx env) (T : StOk env st) {t : Expr} {v : Value} {sv : SV} {K : Vars → AH → Prop} {Q : Unit → Shared → Prop} (S : St prog w h₀ s g) (F : Fe h₀ env vars s g)
    (c : SC s.heap g.r g.H.length v sv) (h : assignK (wpE m cx vars) st t sv vars g.H K) (G : ∀ vars' s' g', Po prog w h₀ s g s' g' (XF env) → Fe h₀ env vars' s' g' → K vars' g'.H → Q () s') : wpAny (model prog w) A (assign t env v) Q E s := by
  cases t with
  | Name x pos => exact wpAny_assign_Name (store_ok S F c (T.s _ (List.contains_iff_mem.mp h.1)) fun s1 P1 F1 => G _ s1 g P1.xs F1 h.2)
  | Attribute o a pos =>
    show wpAny _ _ (do
      let ov ← holding [v] (eval o env)
      standAt pos.atName
      holding [v, ov] (setAttr ov a v)
      release [v, ov] []) _ _ _
    refine wpAny_bind (wpAny_holding (Ek A env cx vars o s g _ _ E R C S F h fun ov so s1 g1 P1 c1 k1 => ?_))
    refine wpAny_bind (wpAny_standAt (wpAny_bind (wpAny_holding (setAttr_ok B k1 P1.st c1 (P1.sc c) fun s2 g2 P2 k2 => ?_))))
    have P := P1.trans' P2
    exact wpAny_release (G vars s2 g2 P.xf (F.keep P) k2)
  | Subscript o i pos =>
    show wpAny _ _ (do
      let ov ← holding [v] (eval o env)
      let iv ← holding [v, ov] (eval i env)
      standAt pos
      holding [v, ov, iv] (setItem ov iv v)
      release (match (generalizing := false) i with | .Slice _ _ none _ => [iv, v, ov] | _ => [v, ov, iv]) []) _ _ _
    refine wpAny_bind (wpAny_holding (Ek A env cx vars o s g _ _ E R C S F h fun ov so s1 g1 P1 c1 k1 => ?_))
    refine wpAny_bind (wpAny_holding (Ek A env cx vars i s1 g1 _ _ E R C P1.st (F.keep P1) k1 fun iv si s2 g2 P2 c2 k2 => ?_))
    have P12 := P1.trans' P2
    refine wpAny_bind (wpAny_standAt (wpAny_bind (wpAny_holding (set_ok k2 P2.st (P2.sc c1) c2 (P12.sc c) fun s3 g3 P3 k3 => ?_))))
    have P := P12.trans' P3
    exact wpAny_release (G vars s3 g3 P.xf (F.keep P) k3)
  | Tuple elts k pos =>
    obtain ⟨xs, e1, hh⟩ := asSome_of h
    obtain ⟨vs, e2, h1, h2, h3, hh⟩ := asSome_of hh
    obtain ⟨a, items, rfl, it, cs⟩ := parts_ok c e2
    obtain ⟨n1, n2, n3⟩ := names_each (prog := prog) (w := w) (env := env) e1
    have hl := cs.length
    show wpAny _ _ (do standAt pos; unpack (.ref a) (assignEach elts env)) _ _ _
    refine wpAny_bind (wpAny_standAt ?_)
    unfold unpack
    rw [n2]
    refine wpAny_bind (wpAny_holding (items_ok R.hd it (by rw [n1, h3, ← hl, Array.length_toList]) S fun s1 P1 => ?_))
    exact inOrder_ok T _ xs _ vs vars s1 Q n3 (subS_iff h2) h3 (P1.scs cs) P1.st (F.keep P1) fun s2 P2 F2 => G _ s2 g (P1.xf.trans' P2) F2 hh
  | _ => exact (show False from h).elim
end
end Mine

namespace Mine
open PySem PySem.W PySem.Calls PyProof.Rows

section
variable {prog : Program} {w : World} {h₀ : Heap} {A : Around} {E : Value → Shared → Prop} {s : Shared} {g : Sg} {n lev : Nat} {env : Env} {cx : Cx} {vars : Vars} {st : List Str}
theorem reachF_pre (H : AH) : ∀ (n : Nat) (l acc : List Nat), ∃ t, reachF H n l acc = acc ++ t
  | 0, l, acc => ⟨[], (List.append_nil _).symm⟩
  | n + 1, [], acc => ⟨[], (List.append_nil _).symm⟩
  | n + 1, a :: r, acc => by
    rw [reachF_e]
    split
    · exact reachF_pre H n r acc
    · obtain ⟨t, e⟩ := reachF_pre H n ((match H[a]? with | some o => o.refs | none => []) ++ r) (acc ++ [a])
      exact ⟨a :: t, e.trans (by simp)⟩
theorem upTo_len : ∀ n, (upTo n).length = n
  | 0 => rfl
  | n + 1 => by simp [upTo, upTo_len n]
theorem upTo_get : ∀ {n i : Nat}, i < n → (upTo n)[i]? = some i
  | 0, _, h => absurd h (Nat.not_lt_zero _)
  | n + 1, i, h => by
    unfold upTo
    by_cases q : i < n
    · rw [List.getElem?_append_left (by rw [upTo_len]; exact q)]; exact upTo_get q
    · have : i = n := by omega
      subst this
      rw [List.getElem?_append_right (by rw [upTo_len]; exact Nat.le_refl _), upTo_len]; simp
theorem gcL_get {N i : Nat} (h : i < N) (l : List Nat) (H : AH) : (gcL N l H)[i]? = some i := by
  unfold gcL
  obtain ⟨t, e⟩ := reachF_pre H 400 (refsH H N ++ l) (upTo N)
  rw [e, List.getElem?_append_left (by rw [upTo_len]; exact h)]
  exact upTo_get h
theorem lk_mapF {f : Nat → Nat} {x : Str} {sv : SV} : ∀ {l : Vars}, lk x (mapF f l) = some sv → ∃ u, lk x l = some u ∧ sv = u.map f
  | [], e => noS e
  | (y, u) :: r, e => by
    rw [mapF_e, lk_e2] at e; rw [lk_e2]
    by_cases q : y = x
    · rw [if_pos q] at e ⊢; cases e; exact ⟨u, rfl, rfl⟩
    · rw [if_neg q] at e ⊢; exact lk_mapF e
theorem lk_refs {x : Str} {sv : SV} : ∀ {l : Vars}, lk x l = some sv → ∀ k ∈ sv.refs, k ∈ refsF l
  | [], e, _, _ => noS e
  | (y, u) :: r, e, k, hk => by
    rw [lk_e2] at e
    rw [refsF_e, List.mem_append]
    by_cases q : y = x
    · rw [if_pos q] at e; cases e; exact .inl hk
    · rw [if_neg q] at e; exact .inr (lk_refs e k hk)
theorem Sg.sel_lab {L : List Nat} (c : closed L g.H = true) {a : Addr} (h : ∀ n, n < g.H.length → g.r n ≠ a) : ∀ n, n < (g.sel L).H.length → (g.sel L).r n ≠ a := fun n hn => by
  rw [Sg.sel_len] at hn
  obtain ⟨m, o, _, _, ho, _, _, er⟩ := Sg.sel_at c hn
  rw [er]
  exact h m (List.getElem?_eq_some_iff.mp ho).1
theorem Fe.sel (F : Fe h₀ env vars s g) {L : List Nat} (c : closed L g.H = true) (hv : ∀ k ∈ refsF vars, k ∈ L) : Fe h₀ env (mapF (ix L) vars) s (g.sel L) := by
  refine ⟨F.kind, F.glob, F.bi, ?_, fun x sv hx hk => ?_, fun x c' hc => ?_, F.cinj, F.lnew.1, Sg.sel_lab c F.lnew.2⟩
  · obtain ⟨m, a, b⟩ := F.ns
    refine ⟨m, a, fun x sv hx hk => ?_⟩
    obtain ⟨u, hu, rfl⟩ := lk_mapF hx
    obtain ⟨v, h1, h2⟩ := b x u hu hk
    exact ⟨v, h1, SC.sel h2 fun k hk => hv k (lk_refs hu k hk)⟩
  · obtain ⟨u, hu, rfl⟩ := lk_mapF hx
    obtain ⟨h1, c', v, h2, h3, h4⟩ := F.cv x u hu hk
    exact ⟨h1, c', v, h2, h3, SC.sel h4 fun k hk => hv k (lk_refs hu k hk)⟩
  · obtain ⟨h1, h2, h3, h4⟩ := F.cells x c' hc
    exact ⟨h1, h2, h3, Sg.sel_lab c h4⟩
theorem gc_ok {s0 : Shared} {g0 : Sg} {X : Addr → Prop} {K : Vars → AH → Prop} (P : Po prog w h₀ s0 g0 s g X) (F : Fe h₀ env vars s g) (h : gcK g0.H.length vars g.H K) : ∃ g' vars', Po prog w h₀ s0 g0 s g' X ∧ Fe h₀ env vars' s g' ∧ K vars' g'.H :=
  ⟨_, _, P.sel h.1 fun _z hi => gcL_get hi _ _, F.sel h.1 (subN_iff h.2.1), h.2.2⟩
theorem Po.dropY {s' : Shared} {g' : Sg} {X Y : Addr → Prop} (P : Po prog w h₀ s g s' g' X) (h : ∀ b, X b → Y b ∨ s.heap.objs.size ≤ b) : Po prog w h₀ s g s' g' Y :=
  ⟨⟨P.ev.same, P.ev.size, fun b o e nx => P.ev.frame b o e fun q => q.elim (fun x => (h b x).elim (fun y => nx (.inl y)) fun z => absurd (Heap.lt_size e) (Nat.not_lt_of_le z)) fun y => nx (.inr y), P.ev.tk⟩, P.st, P.len, P.agree, P.hid, P.fresh⟩
theorem Fe.show (F : Fe h₀ env vars s g) {g2 : Sg} (hr : g2.r = g.r) (hl : g2.H.length = g.H.length) : Fe h₀ env vars s g2 := by
  refine ⟨F.kind, F.glob, F.bi, ?_, fun y sv h1 h2 => ?_, fun y c h1 => ?_, F.cinj, F.lnew.1, fun n hn => by rw [hr]; exact F.lnew.2 n (hl ▸ hn)⟩
  · obtain ⟨m, a, b⟩ := F.ns
    exact ⟨m, a, fun y sv h1 h2 => by rw [hr, hl]; exact b y sv h1 h2⟩
  · obtain ⟨a, c, v, b, d, e⟩ := F.cv y sv h1 h2
    exact ⟨a, c, v, b, d, by rw [hr, hl]; exact e⟩
  · obtain ⟨a, b, c, d⟩ := F.cells y c h1
    exact ⟨a, b, c, fun n hn => by rw [hr]; exact d n (hl ▸ hn)⟩
theorem lk_take {α : Type} {x : Str} {v : α} : ∀ {l : List (Str × α)} {n : Nat}, lk x (l.take n) = some v → lk x l = some v
  | [], n, h => by rw [List.take_nil] at h; exact h
  | (y, u) :: r, 0, h => by cases h
  | (y, u) :: r, n + 1, h => by
    rw [List.take_succ_cons] at h
    rw [lk_e2] at h ⊢
    by_cases q : y = x
    · rw [if_pos q] at h ⊢; exact h
    · rw [if_neg q] at h ⊢; exact lk_take h
theorem while_loop (Tk : ∀ m, TOk prog w h₀ lev m) {m k : Nat} (Sk : SOk prog w h₀ lev m) (R : Rm A (lev + 1)) (C : CxOk prog w h₀ lev cx env) (T : StOk env st) {s0 : Shared} {g0 : Sg} (S : St prog w h₀ s0 g0) (F : Fe h₀ env vars s0 g0) {test : Expr} {body : List Stmt} {K : KS} {j : Nat}
    (h : whileK (wpT j cx) (wpS m cx st) test body g0.H.length k vars g0.H K) {RR : Result → Shared → Prop} (G : ∀ f fl vars' s' g', FlC s' g' f fl → Po prog w h₀ s0 g0 s' g' (XF env) → Fe h₀ env vars' s' g' → K fl vars' g'.H → RR (.ok f) s') :
    codeAny (model prog w) A (.whileLoop test body [] env) RR s0 := by
  refine codeAny_whileLoop (fun k s' => ∃ vars' g', Po prog w h₀ s0 g0 s' g' (XF env) ∧ Fe h₀ env vars' s' g' ∧ whileK (wpT j cx) (wpS m cx st) test body g0.H.length k vars' g'.H K) ?_ k ⟨vars, g0, Po.refl S _, F, h⟩
  rintro k s1 ⟨vars1, g1, P1, F1, h1⟩
  cases k with
  | zero => exact h1.elim
  | succ k =>
    rw [whileK_e] at h1
    refine Tk j A env cx vars1 test s1 g1 _ _ _ R C P1.st F1 h1 fun b s2 g2 P2 k2 => ?_
    have P12 := P1.trans' P2.xf
    have F2 := F1.keep P2
    cases b with
    | false =>
      rw [if_neg (by decide)] at k2 ⊢
      exact wpAny_execs_nil (G .next .nx _ _ _ trivial P12 F2 k2)
    | true =>
      rw [if_pos rfl] at k2 ⊢
      refine Sk A env cx st vars1 body s2 g2 _ _ _ R C T P12.st F2 k2 fun f fl vars3 s3 g3 c3 P3 F3 k3 => ?_
      have P13 := P12.trans' P3
      cases f <;> cases fl <;> try exact c3.elim
      · obtain ⟨g4, vars4, P4, F4, k4⟩ := gc_ok P13 (F3.sub fun _z _z e => lk_take e) (show gcK _ (vars3.take vars1.length) g3.H (fun v3 H3 => whileK _ _ _ _ _ _ v3 H3 _) from k3)
        exact ⟨k, Nat.lt_succ_self _, vars4, g4, P4, F4, k4⟩
      · exact G .next .nx _ _ _ trivial P13 F3 k3
      · obtain ⟨g4, vars4, P4, F4, k4⟩ := gc_ok P13 (F3.sub fun _z _z e => lk_take e) (show gcK _ (vars3.take vars1.length) g3.H (fun v3 H3 => whileK _ _ _ _ _ _ v3 H3 _) from k3)
        exact ⟨k, Nat.lt_succ_self _, vars4, g4, P4, F4, k4⟩
      · exact G (.ret _) (.rt _) _ _ _ c3 P13 F3 k3
theorem Ns_notTR {h : Heap} {a : Addr} {m : Str → Option Value} (x : h.Ns a m) : ∀ ob, h.get? a = some ob → ¬ TR ob := fun ob eo => by
  obtain ⟨o, es, ep, e1, e2, _⟩ := x
  rw [e1] at eo; cases eo
  rintro (⟨_, vs, n, q⟩ | ⟨_, vs, q⟩) <;> (rw [e2] at q; cases q)
theorem cell_notTR {h : Heap} {a : Addr} {v : Option Value} (x : h.IsCell a v) : ∀ ob, h.get? a = some ob → ¬ TR ob := fun ob eo => by
  obtain ⟨o, e1, e2⟩ := x
  rw [e1] at eo; cases eo
  rintro (⟨_, vs, n, q⟩ | ⟨_, vs, q⟩) <;> (rw [e2] at q; cases q)
theorem for_loop {m : Nat} (Sk : SOk prog w h₀ lev m) (R : Rm A (lev + 1)) (C : CxOk prog w h₀ lev cx env) (T : StOk env st) {x : Str} (hx : x ∈ st) {sB : Shared} {gB : Sg} {I : Addr} {l : List PV} {fp : List Addr} {P : Nat → Value → Prop} {St' : Nat → Heap → Prop} {h1 : Heap}
    (IT : IterAt prog w I l h1 fp P St') (tk1 : TK h1 sB.heap) (S : Mine.St prog w h₀ sB gB) (F : Fe h₀ env vars sB gB) (st0 : St' 0 sB.heap) (hfp : ∀ b ∈ fp, b < sB.heap.objs.size ∧ ¬ Own gB b ∧ ¬ XF env b)
    (hI : I < sB.heap.objs.size ∧ (∀ n, n < gB.H.length → gB.r n ≠ I) ∧ h₀.get? I = none ∧ ¬ XF env I) {body : List Stmt} {px : Pos} {K : KS} (h : forK (wpS m cx st) x body gB.H.length l vars gB.H K) {RR : Result → Shared → Prop}
    (G : ∀ f fl vars' s' g', FlC s' g' f fl → Po prog w h₀ sB gB s' g' (fun b => XF env b ∨ b = I) → Fe h₀ env vars' s' g' → K fl vars' g'.H → RR (.ok f) s') : codeAny (model prog w) A (.forLoop (.Name x px) (.ref I) body [] env) RR sB := by
  refine codeAny_forLoop (fun k s' => ∃ i vars' g', k = l.length + 1 - i ∧ i ≤ l.length ∧ Po prog w h₀ sB gB s' g' (fun b => XF env b ∨ b = I) ∧ St' i s'.heap ∧ Fe h₀ env vars' s' g' ∧ forK (wpS m cx st) x body gB.H.length (l.drop i) vars' g'.H K) ?_ (l.length + 1) ⟨0, vars, gB, rfl, Nat.zero_le _, Po.refl S _, st0, F, h⟩
  rintro k s' ⟨i, vars', g', rfl, hi, P0, st, F0, h0⟩
  have nI := P0.notNew hI.1 hI.2.1
  have hW := IT.W A R.hd
  have nl : ¬ (env.locals = I) := fun q => hI.2.2.2 (.inl q.symm)
  have nc : ∀ z c, env.cells.lookup z = some c → ¬ c = I := fun z c hz q => hI.2.2.2 (.inr ⟨z, q ▸ hz⟩)
  by_cases hlt : i < l.length
  · have hd : l.drop i = l[i] :: l.drop (i + 1) := List.drop_eq_getElem_cons hlt
    rw [hd] at h0
    rw [forK_e] at h0
    refine wpAny_with_size (hW.item i _ _ _ hlt st fun v h' tk hP st1 hk hsz => ?_)
    obtain ⟨y, hy, pv⟩ := IT.val i v hlt hP
    have hy : l[i] = y := by rw [List.getElem?_eq_getElem hlt] at hy; exact Option.some.inj hy
    subst hy
    have P1 : Po prog w h₀ s' g' { s' with heap := h', toks := tk } g' (fun b => b = I) := Po.chgN P0.st (fun b o q e => hk b o (by simpa using q) e) hsz nI hI.2.2.1 (IT.nt i _ · st)
    have F1 := F0.keepX P1 nl nc
    refine wpAny_assign_Name (store_ok P1.st F1 (.p ((pv.mono tk1).mono (P0.ev.tk.trans P1.ev.tk))) (T.s x hx) fun s2 P2 F2 => ?_)
    have P02 := ((P0.trans' (P1.weak fun b q => .inr q)).trans' (P2.weak fun b q => .inl q.xf))
    have nofp : ∀ b ∈ fp, ¬ Own g' b := fun b hb q => (hfp b hb).2.1 (P0.own_back (hfp b hb).1 q)
    have st2 : St' (i + 1) s2.heap := hW.frame _ _ _ st1 fun b hb o e => P2.frameAt (fun q => (hfp b hb).2.2 q.xf) (nofp b hb) o e
    refine Sk A env cx _ _ body s2 g' _ _ _ R C T P2.st F2 h0 fun f fl vars3 s3 g3 c3 P3 F3 k3 => ?_
    have P03 := P02.trans' (P3.weak fun b q => .inl q)
    have st3 : St' (i + 1) s3.heap := hW.frame _ _ _ st2 fun b hb o e => P3.frameAt (hfp b hb).2.2 (nofp b hb) o e
    cases f <;> cases fl <;> try exact c3.elim
    · obtain ⟨g4, vars4, P4, F4, k4⟩ := gc_ok P03 (F3.sub fun _z _z e => lk_take e) (show gcK _ (vars3.take vars'.length) g3.H (fun v3 H3 => forK _ _ _ _ _ v3 H3 _) from k3)
      exact ⟨l.length + 1 - (i + 1), by omega, i + 1, vars4, g4, rfl, hlt, P4, st3, F4, k4⟩
    · exact G .next .nx _ _ _ trivial P03 F3 k3
    · obtain ⟨g4, vars4, P4, F4, k4⟩ := gc_ok P03 (F3.sub fun _z _z e => lk_take e) (show gcK _ (vars3.take vars'.length) g3.H (fun v3 H3 => forK _ _ _ _ _ v3 H3 _) from k3)
      exact ⟨l.length + 1 - (i + 1), by omega, i + 1, vars4, g4, rfl, hlt, P4, st3, F4, k4⟩
    · exact G (.ret _) (.rt _) _ _ _ c3 P03 F3 k3
  · have hin : i = l.length := by omega
    subst hin
    refine wpAny_with_size (hW.done _ _ _ st fun h' tk hk hsz => ?_)
    have P1 : Po prog w h₀ s' g' { s' with heap := h', toks := tk } g' (fun b => b = I) := Po.chgN P0.st (fun b o q e => hk b o (by simpa using q) e) hsz nI hI.2.2.1 (IT.nt _ _ · st)
    rw [List.drop_length] at h0
    exact wpAny_execs_nil (G .next .nx vars' _ g' trivial (P0.trans' (P1.weak fun b q => .inr q)) (F0.keepX P1 nl nc) h0)
set_option tactic.hygienic true in
theorem for_ok {m : Nat} (Ek : EOk prog w h₀ lev n) (Sk : SOk prog w h₀ lev m) (R : Rm A (lev + 1)) (C : CxOk prog w h₀ lev cx env) (T : StOk env st) (S : St prog w h₀ s g) (F : Fe h₀ env vars s g) {x : Str} {px pos : Pos} {iter : Expr} {body : List Stmt} {K : KS} {Q : Flow → Shared → Prop}
    (hn : notSet iter = true) (hx : x ∈ st) (h : wpE n cx vars iter g.H fun it H1 => ∃ l, itemsOf it H1 = some l ∧ forK (wpS m cx st) x body H1.length l vars (hideS it H1) fun fl vars2 H2 => K fl vars2 (showS it l H2)) (G : GivesS prog w h₀ env s g K Q) : wpAny (model prog w) A (exec (.For (.Name x px) iter body [] pos) env) Q E s := by
  refine wpAny_For (Ek A env cx vars iter s g _ _ E R C S F h fun it sit s1 g1 P1 c1 k1 => ?_) (notSet_folded hn)
  · obtain ⟨l, el, k1⟩ := k1
    have S1 := P1.st
    have F1 := F.keep P1
    refine iter_ok S1 el c1 fun o fp P St' IT st0 fpk => ?_
    have PB : Po prog w h₀ s1 (Src sit g1) { s1 with heap := s1.heap.push o, toks := s1.toks } (Src sit g1) NoX := Po.push (S1.src sit) o s1.toks
    have FB := (F1.src sit).keep PB
    have hlen := Src.len sit g1
    have hlab : ∀ k, k < (Src sit g1).H.length → (Src sit g1).r k ≠ s1.heap.objs.size := fun k hk q => Nat.lt_irrefl _ (q ▸ S1.lt (hlen ▸ hk))
    have nXI : ¬ XF env s1.heap.objs.size := by
      rintro (q | ⟨y, q⟩)
      · exact Nat.lt_irrefl _ (q ▸ F1.llive)
      · exact Nat.lt_irrefl _ (F1.clive q)
    have hh : s1.heap.objs.size < (s1.heap.push o).objs.size := by rw [Heap.size_push]; exact Nat.lt_succ_self _
    have key : forK (wpS m cx st) x body (Src sit g1).H.length l vars (Src sit g1).H (fun fl vars2 H2 => K fl vars2 (showS sit l H2)) := by rw [hlen]; exact k1
    refine for_loop Sk R C T hx IT PB.ev.tk PB.st FB st0 (fun b hb => ?_) ⟨hh, hlab, S1.fresh (Nat.le_refl _), nXI⟩ key fun f fl vars' s' g' c' P' F' k' => ?_
    · rcases fpk b hb with rfl | ⟨⟨ob, hob⟩, no, ht⟩
      · exact ⟨hh, noOwn hlab, nXI⟩
      · refine ⟨Nat.lt_trans (Heap.lt_size hob) hh, no, ?_⟩
        rcases ht with ⟨ob', e1, tr⟩ | ⟨k, hk, rfl⟩
        · rintro (rfl | ⟨y, q⟩)
          · obtain ⟨mm, hns, _⟩ := F1.ns
            exact Ns_notTR hns _ e1 tr
          · obtain ⟨⟨v, hv⟩, _⟩ := F1.cells y b q
            exact cell_notTR hv _ e1 tr
        · rintro (q | ⟨y, q⟩)
          · exact F1.lnew.2 k hk q
          · exact (F1.cells y _ q).2.2.2 k hk rfl
    · have P3 := (PB.weak (Y := fun b => XF env b ∨ b = s1.heap.objs.size) fun _z q => q.elim).trans' P'
      have P4 := P3.back S1 el fun k hk q => by
        subst hk
        have hml : k < g1.H.length := by
          unfold itemsOf at el
          dsimp only at el
          split at el
          · rename_i e; exact (List.getElem?_eq_some_iff.mp e).1
          · cases el
        rcases q with (q | ⟨y, q⟩) | q
        · exact F1.lnew.2 k hml q
        · exact (F1.cells y _ q).2.2.2 k hml rfl
        · exact Nat.lt_irrefl _ (q ▸ S1.lt hml)
      have P5 := P4.dropY (Y := XF env) fun b q => q.imp id fun z => by rw [z]; exact Nat.le_refl _
      refine G f fl vars' s' _ ?_ (P1.xf.trans' P5) (F'.show rfl (showS_len ..)) k'
      cases f <;> cases fl <;> try exact c'.elim
      · trivial
      · trivial
      · trivial
      · have c' : SC s'.heap g'.r g'.H.length _ _ := c'
        show SC s'.heap g'.r (showS sit l g'.H).length _ _
        rw [showS_len]; exact c'
theorem look_sp (P : Params) : (K P).lookup 127 = some (ido 14 spE) := by kernel_rfl
noncomputable def spV : List (Int × Value) := spE.map fun e => (e.1, e.2.2)
theorem sp_pairs {prog : Program} {w : World} : ∀ (l : List (Int × Tok × Value)), Pairs (PySem.intKind prog w) (l.map fun e => (⟨e.1, .int e.1 e.2.1, e.2.2⟩ : DictEntry)) (l.map fun e => (e.1, e.2.2))
  | [] => .nil
  | (k, t, v) :: r => .cons (kv := (k, v)) (by simp [PySem.intKind, Value.isInt]) rfl (sp_pairs r)
theorem sp_hash : spE.all (fun e => decide (e.1 = hashInt e.1)) = true := by decide +kernel
theorem sp_ints : spV.map (fun e => match e.2 with | .int i t => some (i, t) | _ => none) = spE.map fun e => match e.2.2 with | .int i t => some (i, t) | _ => none := by rfl
theorem sp_dict (B : Bs w h₀) : h₀.DictAt (PySem.intKind prog w) 127 spV 14 := by
  refine ⟨_, _, B.k 127 _ (look_sp _), ⟨rfl, rfl, rfl⟩, rfl, fun e he => ?_, ?_, by decide +kernel⟩
  · obtain ⟨a, ha, rfl⟩ := List.mem_map.mp (List.mem_toArray.mp he)
    exact ⟨a.1, by simp [PySem.intKind, Value.isInt], by have := List.all_eq_true.mp sp_hash a ha; simpa [PySem.intKind] using this⟩
  · rw [List.toList_toArray]
    exact sp_pairs spE
set_option tactic.hygienic true in
theorem sp_at {i : Nat} {k : Int} {v : Value} (h : spV[i]? = some (k, v)) : ∃ j t, v = .int j t ∧ spL[i]? = some (k, j) := by
  have h1 : spE[i]?.map (fun e => (e.1, e.2.2)) = some (k, v) := by rw [← List.getElem?_map]; exact h
  obtain ⟨⟨k', t', v'⟩, e1, e2⟩ := Option.map_eq_some_iff.mp h1
  cases e2
  have hm := List.mem_of_getElem? e1
  have all : spE.all (fun e => match e.2.2 with | .int _ _ => true | _ => false) = true := by decide +kernel
  have := List.all_eq_true.mp all _ hm
  dsimp only at this
  split at this
  · rename_i j t
    exact ⟨j, t, rfl, by unfold spL; rw [List.getElem?_map, e1]; rfl⟩
  · cases this
theorem for_items (B : Bs w h₀) {m : Nat} (Sk : SOk prog w h₀ lev m) (R : Rm A (lev + 1)) (C : CxOk prog w h₀ lev cx env) (T : StOk env st) {a b : Str} (hst : subS [a, b] st = true) (hnd : ndupS [a, b] = true) {s0 : Shared} {g0 : Sg} {I : Addr} {X0 : Addr → Prop}
    (P0 : Po prog w h₀ s0 g0 s g X0) (hX : ∀ b, XF env b ∨ b = I → X0 b) (F : Fe h₀ env vars s g) (hit : IsItemIter s.heap I 127 0 spV.length 14 .none .none) (hI : (∀ n, n < g.H.length → g.r n ≠ I) ∧ h₀.get? I = none ∧ ¬ XF env I)
    {body : List Stmt} {pa pb pt : Pos} {x1 : Nat} {K : KS} (h : forK2 (wpS m cx st) a b body g0.H.length spL vars g.H K) {RR : Result → Shared → Prop}
    (G : ∀ f fl vars' s' g', FlC s' g' f fl → Po prog w h₀ s0 g0 s' g' X0 → Fe h₀ env vars' s' g' → K fl vars' g'.H → RR (.ok f) s') :
    codeAny (model prog w) A (.forLoop (.Tuple [.Name a pa, .Name b pb] x1 pt) (.ref I) body [] env) RR s := by
  have hlen : spL.length = spV.length := by simp [spL, spV]
  have no127 : ∀ {s' : Shared}, (∀ x o, h₀.get? x = some o → s'.heap.get? x = some o) → s'.heap.DictAt (PySem.intKind prog w) 127 spV 14 := fun k => (sp_dict B).at fun o e => k _ _ e
  refine codeAny_forLoop_any (fun k s' => ∃ i vars' g' ok ov, k = spL.length + 1 - i ∧ i ≤ spL.length ∧ Po prog w h₀ s0 g0 s' g' X0 ∧ IsItemIter s'.heap I 127 i spV.length 14 ok ov ∧ Fe h₀ env vars' s' g' ∧ (∀ n, n < g'.H.length → g'.r n ≠ I) ∧ forK2 (wpS m cx st) a b body g0.H.length (spL.drop i) vars' g'.H K) ?_ (spL.length + 1)
    ⟨0, vars, g, .none, .none, rfl, Nat.zero_le _, P0, hit, F, hI.1, h⟩
  rintro k s' ⟨i, vars', g', ok, ov, rfl, hi, P0, it, F0, nI, h0⟩
  have nl : ¬ (env.locals = I) := fun q => hI.2.2 (.inl q.symm)
  have nc : ∀ z c, env.cells.lookup z = some c → ¬ c = I := fun z c hz q => hI.2.2 (.inr ⟨z, q ▸ hz⟩)
  have nt : ∀ ob, s'.heap.get? I = some ob → ¬ TR ob := fun ob eo => by
    rw [show s'.heap.get? I = _ from it] at eo; cases eo; exact notTR rfl (by decide) (by decide)
  have Iin : I < s'.heap.objs.size := Heap.lt_size it
  cases hv : spV[i]? with
  | none =>
    have hsz : i = spL.length := Nat.le_antisymm hi (by rw [hlen]; simpa using hv)
    subst hsz
    refine wpAny_with_size (wpAny_pyNext_items_end R.hd it (no127 P0.st.keep) hv fun h1 he hz => wpAny_execs_nil ?_)
    have P1 : Po prog w h₀ s' g' { s' with heap := h1, toks := s'.toks } g' (fun b => b = I) := Po.chgN P0.st (fun b o q e => he b o q e) hz nI hI.2.1 nt
    rw [List.drop_length] at h0
    exact G .next .nx vars' _ g' trivial (P0.trans' (P1.weak fun b q => hX b (.inr q))) (F0.keepX P1 nl nc) h0
  | some kv =>
    obtain ⟨kk, v⟩ := kv
    obtain ⟨j, tj, rfl, hj⟩ := sp_at hv
    have hlt : i < spL.length := (List.getElem?_eq_some_iff.mp hj).1
    have hd : spL.drop i = (kk, j) :: spL.drop (i + 1) := by
      rw [List.drop_eq_getElem_cons hlt, (List.getElem?_eq_some_iff.mp hj).2]
    rw [hd] at h0
    rw [forK2_e] at h0
    refine wpAny_pyNext_items_item it (no127 P0.st.keep) hv fun key h1 hkey heo ht1 hz1 hk1 => ?_
    obtain ⟨tk, rfl⟩ := Value.isInt_shape hkey
    have P1 : Po prog w h₀ s' g' { s' with heap := h1, toks := s'.toks } g' (fun b => b = I) := Po.chgN P0.st (fun b o q e => hk1 b o q e) (by rw [hz1]; exact Nat.le_succ _) nI hI.2.1 nt
    refine wpAny_letOwnedTupleGo_items heo fun h2 he2 hs2 => ?_
    have nt1 : ∀ ob, h1.get? I = some ob → ¬ TR ob := fun ob eo => by
      rw [show h1.get? I = _ from heo] at eo; cases eo; exact notTR rfl (by decide) (by decide)
    have P2 := Po.chg P1.st (tk' := s'.toks) hs2 nI hI.2.1 nt1
    have F2 := (F0.keepX P1 nl nc).keepX P2 nl nc
    have ht2 : h2.get? s'.heap.objs.size = some { cls := .type "tuple", data := .seq #[.int kk tk, .int j tj] } := (hs2.2 _ (Nat.ne_of_gt Iin)).trans ht1
    have ct : SC h2 g'.r g'.H.length (.ref s'.heap.objs.size) (.p (.tup [.int kk, .int j])) := .p (.tup ht2 rfl rfl (.cons (.int _ _) (.cons (.int _ _) .nil)))
    have P02 := (P0.trans' (P1.weak fun b q => hX b (.inr q))).trans' (P2.weak fun b q => hX b (.inr q))
    refine assign_ok (m := 0) (sv := .p (.tup [.int kk, .int j])) (K := fun vs H => vs = puts [a, b] [.p (.int kk), .p (.int j)] vars' ∧ H = g'.H) B (all_ok B 0).1 R C T P2.st F2 ct ?_ fun vars3 s3 g3 P3 F3 k3 => ?_
    · exact ⟨hnd, hst, rfl, rfl, rfl⟩
    · obtain ⟨rfl, k3⟩ := k3
      rw [← k3] at h0
      have nI3 := P3.notNew (Heap.lt_size he2) nI
      have it3 : IsItemIter s3.heap I 127 (i + 1) spV.length 14 _ _ := P3.frameAt hI.2.2 (noOwn nI) _ he2
      refine Sk A env cx _ _ body s3 g3 _ _ _ R C T P3.st F3 h0 fun f fl vars4 s4 g4 c4 P4 F4 k4 => ?_
      have P03 := P02.trans' (P3.weak fun b q => hX b (.inl q))
      have P04 := P03.trans' (P4.weak fun b q => hX b (.inl q))
      have nI4 := P4.notNew (Heap.lt_size it3) nI3
      have it4 : IsItemIter s4.heap I 127 (i + 1) spV.length 14 _ _ := P4.frameAt hI.2.2 (noOwn nI3) _ it3
      have gc : ∀ {Kx : Vars → AH → Prop}, gcK g0.H.length (vars4.take vars'.length) g4.H Kx → ∃ g5 vars5, Po prog w h₀ s0 g0 s4 g5 X0 ∧ Fe h₀ env vars5 s4 g5 ∧ (∀ n, n < g5.H.length → g5.r n ≠ I) ∧ Kx vars5 g5.H := fun hk =>
        ⟨_, _, P04.sel hk.1 fun _z hi => gcL_get hi _ _, (F4.sub fun _z _z e => lk_take e).sel hk.1 (subN_iff hk.2.1), Sg.sel_lab hk.1 nI4, hk.2.2⟩
      cases f <;> cases fl <;> try exact c4.elim
      · obtain ⟨g5, vars5, P5, F5, n5, k5⟩ := gc (show gcK _ (vars4.take vars'.length) g4.H (fun v3 H3 => forK2 _ _ _ _ _ _ v3 H3 _) from k4)
        exact ⟨spL.length + 1 - (i + 1), by omega, i + 1, vars5, g5, _, _, rfl, hlt, P5, it4, F5, n5, k5⟩
      · exact G .next .nx _ _ _ trivial P04 F4 k4
      · obtain ⟨g5, vars5, P5, F5, n5, k5⟩ := gc (show gcK _ (vars4.take vars'.length) g4.H (fun v3 H3 => forK2 _ _ _ _ _ _ v3 H3 _) from k4)
        exact ⟨spL.length + 1 - (i + 1), by omega, i + 1, vars5, g5, _, _, rfl, hlt, P5, it4, F5, n5, k5⟩
      · exact G (.ret _) (.rt _) _ _ _ c4 P04 F4 k4
set_option tactic.hygienic true in
theorem items_loop (B : Bs w h₀) {m : Nat} (Sk : SOk prog w h₀ lev m) (R : Rm A (lev + 1)) (C : CxOk prog w h₀ lev cx env) (T : StOk env st) (S : St prog w h₀ s g) (F : Fe h₀ env vars s g) {a b d : Str} {pa pb pt pd ap cp pos : Pos} {x1 : Nat} {body : List Stmt} {K : KS} {Q : Flow → Shared → Prop}
    (hl : (ap.endLine == cp.line) = true) (hnd : ndupS [a, b] = true) (hst : subS [a, b] st = true) (hd : (lk d vars).isNone = true) (h : nameK cx vars d g.H fun dv H1 => rawK dv 127 (∃ l, l = spL ∧ forK2 (wpS m cx st) a b body g.H.length l vars g.H K)) (G : GivesS prog w h₀ env s g K Q) :
    wpAny (model prog w) A (exec (.For (.Tuple [.Name a pa, .Name b pb] x1 pt) (.Call (.Attribute (.Name d pd) (sn "items") ap) [] [] cp) body [] pos) env) Q E s := by
  have hdb := name_dbg C F h
  unfold nameK at h
  rw [Option.isNone_iff_eq_none.mp hd] at h
  dsimp only at h
  split at h
  · rename_i sv e
    obtain ⟨hk, h⟩ := h
    unfold rawK at h
    split at h
    · obtain ⟨rfl, _, rfl, h⟩ := h
      have hg := C.u _ _ e
      have hk := C.g d (beq_iff_eq.mp hk)
      refine wpAny_For (wpAny_Call_items (knd := PySem.intKind prog w) (kvs := spV) (d := 127) ?_ ?_ (base_of rfl) hl (fun Q' hq => wpAny_Name (wp_global B S.keep F.kind F.glob F.bi hg hk g.r g.H.length fun v c => by cases c with | raw _ => exact hq) hdb) ?_) (fun _z => rfl)
      · exact beq_eq_false_iff_ne.mpr (by decide)
      · exact ((sp_dict B).at fun o e => S.keep _ _ e).dictOf
      · have P1 := Po.push S { cls := .type "dict_items", data := .fields #[.ref 127] } s.toks
        refine wpAny_pyIter_items (knd := PySem.intKind prog w) (d := 127) (kvs := spV) (ep := 14) ⟨_, Heap.get?_push_size _ rfl, rfl, rfl⟩ ((sp_dict B).at fun o e => P1.st.keep _ _ e) ?_
        have P2 := Po.push P1.st { cls := .type "dict_itemiterator", data := .fields #[.none, .bool false, .ref 127, .int 0 0, .int spV.length 0, .int 14 0, .none, .none] } s.toks
        have P12 := P1.trans' P2
        have F2 := F.keep P12
        have sz : (s.heap.push { cls := .type "dict_items", data := .fields #[.ref 127] }).objs.size = s.heap.objs.size + 1 := Heap.size_push ..
        have nl : ∀ n, n < g.H.length → g.r n ≠ (s.heap.push { cls := .type "dict_items", data := .fields #[.ref 127] }).objs.size := fun n hn q => by
          have := S.lt hn
          rw [q, sz] at this
          exact absurd this (Nat.not_lt_of_le (Nat.le_succ _))
        have hiX : s.heap.objs.size ≤ (s.heap.push { cls := .type "dict_items", data := .fields #[.ref 127] }).objs.size := by rw [sz]; exact Nat.le_succ _
        refine for_items B Sk R C T hst hnd (X0 := fun b => XF env b ∨ b = (s.heap.push { cls := .type "dict_items", data := .fields #[.ref 127] }).objs.size) (P12.weak fun _z q => q.elim) (fun _z q => q) F2 (Heap.get?_push_size _ rfl) ⟨nl, S.fresh hiX, ?_⟩ h fun f fl vars' s' g' c' P' F' k' => ?_
        · rintro (q | ⟨y, q⟩)
          · have := F.llive; rw [← q] at this; exact absurd this (Nat.not_lt_of_le hiX)
          · exact absurd (F.clive q) (Nat.not_lt_of_le hiX)
        · exact G f fl vars' s' g' c' (P'.dropY fun b q => q.imp id fun z => by rw [z]; exact hiX) F' k'
    · exact h.elim
  · exact h.elim
end
end Mine

namespace Mine
open PySem PySem.W PySem.Calls PyProof.Rows

section
variable {prog : Program} {w : World} {h₀ : Heap} {A : Around} {E : Value → Shared → Prop} {s : Shared} {g : Sg} {n lev : Nat} {env : Env} {cx : Cx} {vars : Vars} {st : List Str}
theorem exec_assign (targets : List Expr) (value : Expr) (pos : Pos) : exec (.Assign targets value pos) env = (do
    standAt pos
    if ← swapsWithSole targets value pos.line env then do
      evalThenUse value env fun v => assignAll v ((assignEach targets env).map (·.2))
      pure .next
    else do
      let v ← eval value env
      assignStores env v (← swappedStores targets value env) ((assignEach targets env).map (·.2))) := rfl
theorem names_filter {f : Expr → Option Str} (hf : ∀ e y, f e = some y → ∃ p, e = .Name y p) : ∀ {ts : List Expr} {xs : List Str}, namesOf ts = some xs → (ts.filterMap f).length = ts.length → ts.filterMap f = xs
  | [], xs, h, _ => by cases h; rfl
  | t :: r, xs, h, hl => by
    rw [List.filterMap_cons] at hl ⊢
    cases q : f t with
    | none =>
      rw [q] at hl
      have := List.length_filterMap_le f r
      simp only [List.length_cons] at hl
      omega
    | some y =>
      rw [q] at hl
      obtain ⟨p, rfl⟩ := hf t y q
      simp only [namesOf] at h
      obtain ⟨ys, h1, rfl⟩ := Option.map_eq_some_iff.mp h
      simp only [List.length_cons] at hl
      rw [names_filter hf h1 (by omega)]
theorem ofNe {a b : Nat} (h : (a != b) = false) : a = b := by simpa using h
theorem ifP {α : Type} {P : α → Prop} {b : Bool} {x y : α} (h1 : b = true → P x) (h2 : b = false → P y) : P (if b = true then x else y) := by
  cases b with
  | true => exact h1 rfl
  | false => exact h2 rfl
noncomputable def PickN (alt : Str → Pos → Option Str) (y : Str) (e : Expr) : Prop := ∃ id pos, e = .Name id pos ∧ alt id pos = some y
theorem pickN_of {alt : Str → Pos → Option Str} {e : Expr} {y : Str} (h : PySem.swappedStores.match_8 (fun _z => Option Str) e alt (fun _z => none) = some y) : PickN alt y e := by
  cases e with
  | Name id pos => exact ⟨id, pos, rfl, h⟩
  | _ => exact noS h
theorem swapped_or {ts vs : List Expr} {k k2 : Nat} {p p2 : Pos} {xs : List Str} (hn : namesOf ts = some xs) (hv : (vs.all (foldedForSure 8) || !vs.all (constantsAlone 8)) = true) :
    swappedStores [.Tuple ts k p] (.Tuple vs k2 p2) env = pure none ∨ swappedStores [.Tuple ts k p] (.Tuple vs k2 p2) env = pure (some xs) := by
  rw [show swappedStores [.Tuple ts k p] (.Tuple vs k2 p2) env = (if _ = true then pure none else _) from rfl]
  refine ifP (P := fun x => x = _ ∨ x = _) (fun _z => .inl rfl) fun _z => ifP (P := fun x => x = _ ∨ x = _) (fun _z => .inl rfl) fun _z => ifP (P := fun x => x = _ ∨ x = _) (fun _z => .inl rfl) fun h3 => ifP (P := fun x => x = _ ∨ x = _) (fun _z => .inl rfl) fun h4 => ifP (P := fun x => x = _ ∨ x = _) (fun h5 => ?_) fun _z => .inr ?_
  · rw [h5, h4] at hv; cases hv
  · rw [names_filter (fun e y he => ?_) hn (ofNe (Bool.or_eq_false_iff.mp h3).1)]
    obtain ⟨id, pos, rfl, he⟩ := pickN_of he
    refine ifP (P := fun x => x = some y → ∃ p, Expr.Name id pos = .Name y p) (fun _z h => ?_) (fun _z h => noS h) he
    cases h; exact ⟨_, rfl⟩
theorem swaps_comp (elt : Expr) (gs : List Comprehension) (sc : Scope) (p : Pos) (x : Str) (px : Pos) (line : Nat) : ∃ b, swapsWithSole [.Name x px] (.ListComp elt gs sc p) line env = pure b := ⟨_, rfl⟩
theorem swaps_plain {t value : Expr} {line : Nat} (h : notComp value = true) : swapsWithSole [t] value line env = pure false := by
  cases value <;> first | rfl | cases h
theorem swaps_none {value : Expr} {line : Nat} (h : notComp value = true) : swapsWith value none line env = pure false := by
  cases value <;> first | rfl | cases h
noncomputable def OneC (e : Expr) : Prop := ∃ elt y py it ifs sc p, e = .ListComp elt [⟨.Name y py, it, ifs, 0⟩] sc p
theorem oneC_of {e : Expr} (h : oneC? e = true) : OneC e := by
  cases e with
  | ListComp elt gs sc p =>
    rcases gs with _ | ⟨⟨tg, it, ifs, ia⟩, _ | ⟨_, _⟩⟩
    · cases h
    · obtain ⟨q1, q2⟩ := Bool.and_eq_true_iff.mp (show ((name? tg).isSome && decide (ia = 0)) = true from h)
      obtain ⟨y, hy⟩ := Option.isSome_iff_exists.mp q1
      obtain ⟨py, rfl⟩ := name_of hy
      have q2 := of_decide_eq_true q2
      subst q2
      exact ⟨elt, y, py, it, ifs, sc, p, rfl⟩
    · cases h
  | _ => exact ffB h
theorem sw_or {t e : Expr} (h : swOk t e = true) : notComp e = true ∨ ((∃ x, name? t = some x) ∧ oneC? e = true) := by
  cases t with
  | Tuple _ _ _ => exact .inl (Bool.and_eq_true_iff.mp h).1
  | Name x _ => exact (Bool.or_eq_true_iff.mp h).imp id fun q => ⟨⟨x, rfl⟩, q⟩
  | _ => exact .inl h
theorem swOk_cases {t value : Expr} (h : swOk t value = true) : notComp value = true ∨ (∃ x px elt y py it ifs sc p, t = .Name x px ∧ value = .ListComp elt [⟨.Name y py, it, ifs, 0⟩] sc p) := by
  rcases sw_or h with q | ⟨⟨x, q1⟩, q2⟩
  · exact .inl q
  · obtain ⟨px, rfl⟩ := name_of q1
    obtain ⟨elt, y, py, it, ifs, sc, p, rfl⟩ := oneC_of q2
    exact .inr ⟨x, px, elt, y, py, it, ifs, sc, p, rfl, rfl⟩
noncomputable def FourT (t : Expr) : Prop := (∃ x p, t = .Name x p) ∨ (∃ o a p, t = .Attribute o a p) ∨ (∃ o i p, t = .Subscript o i p) ∨ ∃ es k p, t = .Tuple es k p
theorem assignK_of {t : Expr} {sv : SV} {K : Vars → AH → Prop} {E : Ev1} {H : AH} (ha : assignK E st t sv vars H K) : FourT t := by
  cases t with
  | Name x p => exact .inl ⟨x, p, rfl⟩
  | Attribute o a p => exact .inr (.inl ⟨o, a, p, rfl⟩)
  | Subscript o i p => exact .inr (.inr (.inl ⟨o, i, p, rfl⟩))
  | Tuple es k p => exact .inr (.inr (.inr ⟨es, k, p, rfl⟩))
  | _ => exact (show False from ha).elim
noncomputable def TupN (f : Expr → Sem (Option (List Str))) (v : Expr) : Prop := (∃ vs k2 p2, v = .Tuple vs k2 p2) ∨ f v = pure none
theorem tupN {f : Expr → Sem (Option (List Str))} {v : Expr} (h : f v = pure none) : TupN f v := .inr h
theorem tup_none {ts : List Expr} {k : Nat} {p : Pos} {value : Expr} : TupN (fun v => swappedStores [.Tuple ts k p] v env) value := by
  cases value with
  | Tuple vs k2 p2 => exact .inl ⟨vs, k2, p2, rfl⟩
  | _ => exact tupN (Eq.refl (pure none))
theorem swapped_cases {t value : Expr} (h : swOk t value = true) {sv : SV} {K : Vars → AH → Prop} {m : Nat} {H : AH} (ha : assignK (wpE m cx vars) st t sv vars H K) :
    swappedStores [t] value env = pure none ∨ ∃ elts k p xs, t = .Tuple elts k p ∧ namesOf elts = some xs ∧ swappedStores [t] value env = pure (some xs) := by
  rcases assignK_of ha with ⟨x, p, rfl⟩ | ⟨o, a, p, rfl⟩ | ⟨o, i, p, rfl⟩ | ⟨elts, k, p, rfl⟩
  · exact .inl rfl
  · exact .inl rfl
  · exact .inl rfl
  · obtain ⟨xs, e1, _⟩ := asSome_of ha
    rcases tup_none (env := env) (ts := elts) (k := k) (p := p) (value := value) with ⟨vs', k2, p2, rfl⟩ | q
    · rcases swapped_or (env := env) (k := k) (k2 := k2) (p := p) (p2 := p2) e1 (show tupOk (.Tuple vs' k2 p2) = true from (Bool.and_eq_true_iff.mp (show (notComp (.Tuple vs' k2 p2) && tupOk (.Tuple vs' k2 p2)) = true from h)).2) with q | q
      · exact .inl q
      · exact .inr ⟨_, _, _, xs, rfl, e1, q⟩
    · exact .inl q
theorem stores_rev : ∀ (xs : List Str), Stores prog w env (xs.map fun n => bindName env n) xs
  | [] => .nil
  | _ :: r => .cons (fun _z _z _z _z _z h => wpAny_bindName h) (stores_rev r)
theorem each_one {t : Expr} {sv : SV} {K : Vars → AH → Prop} {m : Nat} {H : AH} (ha : assignK (wpE m cx vars) st t sv vars H K) : (assignEach [t] env).map (·.2) = [assign t env] := by
  rcases assignK_of ha with ⟨x, p, rfl⟩ | ⟨o, a, p, rfl⟩ | ⟨o, i, p, rfl⟩ | ⟨elts, k, p, rfl⟩ <;> rfl
theorem assign_main (B : Bs w h₀) {m : Nat} (R : Rm A (lev + 1)) (C : CxOk prog w h₀ lev cx env) (T : StOk env st) (S : St prog w h₀ s g) (F : Fe h₀ env vars s g) {t value : Expr} {K : Vars → AH → Prop} {Q : Flow → Shared → Prop} (hs : swOk t value = true)
    (hv : ∀ Q' : Value → Shared → Prop, (∀ v sv s1 g1, Po prog w h₀ s g s1 g1 NoX → SC s1.heap g1.r g1.H.length v sv → assignK (wpE m cx vars) st t sv vars g1.H K → Q' v s1) → wpAny (model prog w) A (eval value env) Q' E s)
    (G : ∀ vars' s' g', Po prog w h₀ s g s' g' (XF env) → Fe h₀ env vars' s' g' → K vars' g'.H → Q .next s') : wpAny (model prog w) A (do
      let v ← eval value env
      assignStores env v (← swappedStores [t] value env) ((assignEach [t] env).map (·.2))) Q E s := by
  have Ek := (all_ok (prog := prog) (lev := lev) B m).1
  refine wpAny_bind (hv _ fun v sv s1 g1 P1 c1 k1 => ?_)
  rw [each_one k1]
  rcases swapped_cases (env := env) hs k1 with q | ⟨elts, k, p, xs, rfl, e1, q⟩
  · rw [q]
    refine wpAny_bind (wpAny_pure ?_)
    show wpAny _ _ (do assignAll v [assign t env]; pure Flow.next) _ _ _
    exact wpAny_bind (assign_ok B Ek R C T P1.st (F.keep P1) c1 k1 fun vars' s2 g2 P2 F2 k2 => wpAny_pure (G vars' s2 g2 (P1.xf.trans' P2) F2 k2))
  · rw [q]
    refine wpAny_bind (wpAny_pure ?_)
    show wpAny _ _ (do
      rule "assign.swapped-stores"
      let items ← unpackItems v xs.length none
      assignInOrder (xs.reverse.map fun n => bindName env n) items.reverse
      pure Flow.next) _ _ _
    obtain ⟨xs', e0, k1⟩ := asSome_of k1
    rw [e1] at e0
    cases e0
    obtain ⟨vs, e2, h1, h2, h3, k1⟩ := asSome_of k1
    obtain ⟨a, items, rfl, it, cs⟩ := parts_ok c1 e2
    have hl := cs.length
    refine wpAny_bind (wpAny_rule (wpAny_bind (items_ok R.hd it (by rw [h3, ← hl, Array.length_toList]) P1.st fun s2 P2 => ?_)))
    refine wpAny_bind (inOrder_ok T _ xs.reverse _ vs.reverse vars s2 _ (stores_rev _) (fun x hm => subS_iff h2 x (List.mem_reverse.mp hm)) (by simpa using h3) (P2.scs cs).rev P2.st ((F.keep P1).keep P2) fun s3 P3 F3 => wpAny_pure ?_)
    refine G _ s3 g1 ((P1.trans' P2).xf.trans' P3) (F3.sub fun z sv e => ?_) k1
    rw [puts_rev h1 h3]; exact e
theorem assignS_ok (B : Bs w h₀) {m : Nat} (R : Rm A (lev + 1)) (C : CxOk prog w h₀ lev cx env) (T : StOk env st) (S : St prog w h₀ s g) (F : Fe h₀ env vars s g) {t value : Expr} {pos : Pos} {K : Vars → AH → Prop} {Q : Flow → Shared → Prop} (hs : swOk t value = true)
    (h : wpE (m + 1) cx vars value g.H fun v H1 => assignK (wpE (m + 1) cx vars) st t v vars H1 K) (G : ∀ vars' s' g', Po prog w h₀ s g s' g' (XF env) → Fe h₀ env vars' s' g' → K vars' g'.H → Q .next s') : wpAny (model prog w) A (exec (.Assign [t] value pos) env) Q E s := by
  have Ek := (all_ok (prog := prog) (lev := lev) B (m + 1)).1
  rw [exec_assign]
  refine wpAny_bind (wpAny_standAt ?_)
  have main : wpAny (model prog w) A (do
      let v ← eval value env
      assignStores env v (← swappedStores [t] value env) ((assignEach [t] env).map (·.2))) Q E s := assign_main B R C T S F hs (fun Q' hq => Ek A env cx vars value s g _ _ E R C S F h hq) G
  rcases swOk_cases hs with q | ⟨x, px, elt, y, py, iter, ifs, sc, p, rfl, rfl⟩
  · rw [swaps_plain q]
    exact wpAny_bind (wpAny_pure main)
  · obtain ⟨b, hb⟩ := swaps_comp (env := env) elt [⟨.Name y py, iter, ifs, 0⟩] sc p x px pos.line
    rw [hb]
    refine wpAny_bind (wpAny_pure ?_)
    cases b with
    | false => exact main
    | true =>
      rw [if_pos rfl]
      rw [wpE_succ] at h
      obtain ⟨-, h1, h2, h3, h⟩ := h
      have Ek := (all_ok (prog := prog) (lev := lev) B m).1
      have Tk := (all_ok (prog := prog) (lev := lev) B m).2
      show wpAny _ A (do
        let _ ← (do let _ ← comprehension (.ListComp elt [⟨.Name y py, iter, ifs, 0⟩] sc p) sc env _ (newList []) false (eval iter env) (some fun v => assign (.Name x px) env v))
        pure Flow.next) _ _ _
      refine wpAny_bind (wpAny_bind ?_)
      refine comp_ok (KK := fun acc H => assignK (wpE (m + 1) cx vars) st (.Name x px) (.ref H.length) vars (H ++ [.list acc]) K) Ek Tk R C S F h1 h2 h3 h (some fun v => assign (.Name x px) env v) fun s' g' D C' ys acc mm P hDC hD hC nD nC hD0 hC0 pl pc hm k => ?_
      obtain ⟨hx, k⟩ := k
      obtain ⟨kk, hl⟩ := pl
      have P4 := P.adopt (a := D) (o := .list acc) hD hD0 nD ⟨ys, kk, hl, pc⟩
      have nC4 : ∀ n, n < (g'.add D (.list acc)).H.length → (g'.add D (.list acc)).r n ≠ C' := fun n hn q => by
        have hn : n < g'.H.length + 1 := by simpa [Sg.add] using hn
        by_cases z : n = g'.H.length
        · have : (g'.add D (.list acc)).r n = D := by rw [z]; exact if_pos rfl
          exact hDC (this.symm.trans q)
        · have : (g'.add D (.list acc)).r n = g'.r n := if_neg z
          exact nC n (by omega) (this.symm.trans q)
      have nlC : env.locals ≠ C' := fun q => absurd F.llive (Nat.not_lt_of_le (q ▸ hC))
      have ncC : ∀ z c, env.cells.lookup z = some c → c ≠ C' := fun z c hz q => absurd (F.clive hz) (Nat.not_lt_of_le (q ▸ hC))
      refine wpAny_assign_Name (store_ok P4.st (F.keep P4) (Sg.add_ref ..) (T.s x (List.contains_iff_mem.mp hx)) fun s2 P5 F2 => ?_)
      have hm2 : s2.heap.Ns C' mm := by
        obtain ⟨o, es, ep, e, r⟩ := hm
        refine ⟨o, es, ep, P5.frameAt (fun q => q.elim (fun z => nlC z.2.symm) fun z => ncC _ _ z.2 rfl) (noOwn nC4) o e, r⟩
      refine ⟨mm, hm2, fun h' sb => wpAny_pure (wpAny_pure ?_)⟩
      have P6 := Po.chg P5.st (tk' := s2.toks) sb nC4 hC0 (Ns_notTR hm2)
      have F3 := F2.keepX P6 nlC ncC
      have P7 := ((P4.weak (Y := fun b => XF env b ∨ b = C') fun _z q => q.elim).trans' (P5.weak fun b q => .inl q.xf)).trans' (P6.weak fun b q => .inr q)
      exact G _ _ _ (P7.dropY fun b q => q.imp id fun z => by rw [z]; exact hC) F3 k
noncomputable def AugIs (op : Operator) (x y : SV) : Prop := (op = .Add ∧ ∃ i j, x = .p (.int i) ∧ y = .p (.int j)) ∨ (op = .Add ∧ ∃ i j, x = .p (.str i) ∧ y = .p (.str j))
theorem aug_is {op : Operator} {x y : SV} (ho : augOk op x y = true) : AugIs op x y := by
  cases op with
  | Add => cases x with
    | p x => cases y with
      | p y => cases x with
        | int i => cases y with
          | int j => exact .inl ⟨rfl, i, j, rfl, rfl⟩
          | _ => exact ffB ho
        | str i => cases y with
          | str j => exact .inr ⟨rfl, i, j, rfl, rfl⟩
          | _ => exact ffB ho
        | _ => exact ffB ho
      | _ => cases x <;> exact ffB ho
    | _ => exact ffB ho
  | _ => exact ffB ho
theorem aug_ok {op : Operator} {x y : SV} {a b : Value} {K : Kv} {Q : Value → Shared → Prop} (ho : augOk op x y = true) (h : preBin op x y g.H K) (S : St prog w h₀ s g) (ca : SC s.heap g.r g.H.length a x) (cb : SC s.heap g.r g.H.length b y) (G : Gives prog w h₀ s g K Q) :
    wpAny (model prog w) A (inplaceOp op a b) Q E s := by
  rcases aug_is ho with ⟨rfl, i, j, rfl, rfl⟩ | ⟨rfl, i, j, rfl, rfl⟩
  · obtain ⟨t, rfl⟩ := ca.int_of
    obtain ⟨u, rfl⟩ := cb.int_of
    exact wpAny_iadd_int (G.tok S _ (.p (.int _ _)) h)
  · obtain ⟨t, rfl⟩ := ca.str_of
    obtain ⟨u, rfl⟩ := cb.str_of
    have h : _ ∧ _ ∧ _ := h
    exact SB.iadd (fun t' k => G.tok S k (.p (.str _ _)) h.2.2) h.2.1
theorem sstep (B : Bs w h₀) (Sk : SOk prog w h₀ lev n) : SOk prog w h₀ lev (n + 1) := by
  intro A env cx st vars body s g K Q E R C T S F h G
  have Ek := fun m => (all_ok (prog := prog) (lev := lev) B m).1
  have Tk := fun m => (all_ok (prog := prog) (lev := lev) B m).2
  cases body with
  | nil => exact wpAny_execs_nil (G .next .nx vars s g trivial (Po.refl S _) F h)
  | cons c rest =>
    refine wpAny_execs_cons ?_
    have h : stepS (wpE 20 cx) (wpT 20 cx) (wpS n cx st) st vars c g.H _ := h
    have rest_ok : ∀ vars' s' g', Po prog w h₀ s g s' g' (XF env) → Fe h₀ env vars' s' g' → wpS n cx st vars' rest g'.H K → wpAny (model prog w) A (execs rest env) Q E s' := fun vars' s' g' P F' k => Sk A env cx st vars' rest s' g' K Q E R C T P.st F' k (G.after P)
    generalize hK : seqK (wpS n cx st) rest K = K2 at h
    have GS : GivesS prog w h₀ env s g K2 (fun f s' => match f with | .next => wpAny (model prog w) A (execs rest env) Q E s' | f => Q f s') := by
      intro f fl vars' s' g' c' P F' k
      subst hK
      cases f <;> cases fl <;> try exact c'.elim
      · exact rest_ok vars' s' g' P F' k
      · exact G .brk .bk vars' s' g' trivial P F' k
      · exact G .cont .ct vars' s' g' trivial P F' k
      · exact G (.ret _) (.rt _) vars' s' g' c' P F' k
    generalize (fun (f : Flow) (s' : Shared) => (match f with | .next => wpAny (model prog w) A (execs rest env) Q E s' | f => Q f s')) = Q2 at GS ⊢
    clear G hK rest_ok
    cases c with
    | Expr e p =>
      obtain ⟨h1, h⟩ := h
      exact wpAny_Expr_any (Ek 20 A env cx vars _ s g _ _ E R C S F h fun v sv s1 g1 P1 c1 k1 => GS .next .nx vars s1 g1 trivial P1.xf (F.keep P1) k1) (by unfold interactive; rw [F.kind]; rfl) (swaps_none h1)
    | Return v p =>
      cases v with
      | none => exact wpAny_Return_none (GS (.ret .none) (.rt _) vars s g (.p .none) (Po.refl S _) F h)
      | some e => exact wpAny_Return_some (Ek 20 A env cx vars _ s g _ _ E R C S F h fun v sv s1 g1 P1 c1 k1 => GS (.ret v) (.rt sv) vars s1 g1 c1 P1.xf (F.keep P1) k1)
    | Assign ts value p =>
      rcases ts with _ | ⟨t, _ | ⟨_, _⟩⟩
      · exact (show False from h).elim
      · exact assignS_ok (m := 19) B R C T S F h.1 h.2 fun vars' s' g' P F' k => GS .next .nx vars' s' g' trivial P F' k
      · exact (show False from h).elim
    | AugAssign t op value p =>
      have h : augK (wpE 20 cx) st vars t op value g.H K2 := h
      unfold augK at h
      cases hq : name? t with
      | some x =>
        rw [hq] at h
        obtain ⟨px, rfl⟩ := name_of hq
        have h : augNK (wpE 20 cx) st vars x op value g.H K2 := h
        unfold augNK at h
        cases e : lk x vars with
        | none => rw [e] at h; exact (show False from h).elim
        | some old =>
        rw [e] at h
        obtain ⟨hx, h⟩ := h
        refine wpAny_AugAssign_Name (name_ok (vars := vars) (K := fun sv H => sv = old ∧ H = g.H) B C S F (by unfold nameK; rw [e]; exact ⟨rfl, rfl⟩) fun ov so s1 g1 P1 c1 k1 => ?_)
        obtain ⟨rfl, k1⟩ := k1
        rw [← k1] at h
        refine Ek 20 A env cx vars _ s1 g1 _ _ E R C P1.st (F.keep P1) h fun v sv s2 g2 P2 c2 k2 => ?_
        refine aug_ok k2.1 k2.2 P2.st (P2.sc c1) c2 fun r sr s3 g3 P3 c3 k3 => ?_
        have P := (P1.trans' P2).trans' P3
        exact store_ok P3.st (F.keep P) c3 (T.s _ (List.contains_iff_mem.mp hx)) fun s4 P4 F4 => GS .next .nx _ s4 g3 trivial (P.xf.trans' P4.xs) F4 k3
      | none =>
        rw [hq] at h
        dsimp only at h
        cases hq2 : attr? t with
        | none => rw [hq2] at h; exact (show False from h).elim
        | some q =>
        obtain ⟨o, a, ap⟩ := q
        rw [hq2] at h
        have ht := attr_of hq2
        subst ht
        refine wpAny_AugAssign_AttributeAny (Ek 20 A env cx vars _ s g _ _ E R C S F h fun ov so s1 g1 P1 c1 k1 => ?_)
        refine attr_ok B k1 P1.st c1 fun old sold s2 g2 P2 c2 k2 => ?_
        have P12 := P1.trans' P2
        refine Ek 20 A env cx vars _ s2 g2 _ _ E R C P2.st (F.keep P12) k2 fun v sv s3 g3 P3 c3 k3 => ?_
        refine aug_ok k3.1 k3.2 P3.st (P3.sc c2) c3 fun r sr s4 g4 P4 c4 k4 => ?_
        have P34 := P3.trans' P4
        refine setAttr_ok B k4 P4.st ((P2.trans' P34).sc c1) c4 fun s5 g5 P5 k5 => ?_
        have P := (P12.trans' P34).trans' P5
        exact GS .next .nx vars s5 g5 trivial P.xf (F.keep P) k5
    | If t a b p =>
      refine wpAny_If (Tk 20 A env cx vars _ s g _ _ E R C S F h fun b s1 g1 P1 k1 => ?_)
      cases b with
      | true => rw [if_pos rfl] at k1 ⊢; exact Sk A env cx st vars _ s1 g1 _ _ E R C T P1.st (F.keep P1) k1 (GS.after P1.xf)
      | false => rw [if_neg (by decide)] at k1 ⊢; exact Sk A env cx st vars _ s1 g1 _ _ E R C T P1.st (F.keep P1) k1 (GS.after P1.xf)
    | While t body els p =>
      cases els with
      | cons _ _ => exact (show False from h).elim
      | nil =>
        obtain ⟨m, h⟩ := h
        exact wpAny_While (while_loop Tk Sk R C T S F h fun f fl vars' s' g' c' P F' k => GS f fl vars' s' g' c' P F' k)
    | For t it body els p =>
      cases els with
      | cons _ _ => exact (show False from h).elim
      | nil =>
        have h : forS (wpE 20 cx) (wpS n cx st) st vars t it body g.H K2 := h
        unfold forS at h
        cases hq : name? t with
        | some x =>
          rw [hq] at h
          obtain ⟨px, rfl⟩ := name_of hq
          obtain ⟨h1, h2, h⟩ := h
          exact for_ok (Ek 20) Sk R C T S F h1 (List.contains_iff_mem.mp h2) h GS
        | none =>
          rw [hq] at h
          dsimp only at h
          cases q2 : two? t with
          | none => rw [q2] at h; exact (show False from h).elim
          | some ab =>
            obtain ⟨a, b⟩ := ab
            rw [q2] at h
            dsimp only at h
            cases q3 : items? it with
            | none => rw [q3] at h; exact (show False from h).elim
            | some q =>
              obtain ⟨d, m, ap, cp⟩ := q
              rw [q3] at h
              obtain ⟨pa, pb, k, pt, rfl⟩ := two_of q2
              obtain ⟨pd, rfl⟩ := items_of q3
              obtain ⟨rfl, h1, h2, h3, h4, h⟩ := h
              exact items_loop B Sk R C T S F h1 h2 h3 h4 h GS
    | Try body hs els fin p =>
      cases hs with
      | nil => exact (show False from h).elim
      | cons _ _ => cases els with
        | cons _ _ => exact (show False from h).elim
        | nil => cases fin with
          | cons _ _ => exact (show False from h).elim
          | nil =>
            refine wpAny_Try_except (Sk A env cx st vars _ s g _ _ _ R C T S F h fun f fl vars' s' g' c' P F' k => ?_)
            cases f with
            | next => exact wpAny_execs_nil (GS .next fl vars' s' g' c' P F' k)
            | _ => exact GS _ fl vars' s' g' c' P F' k
    | Pass p => exact wpAny_Pass (GS .next .nx vars s g trivial (Po.refl S _) F h)
    | Break p => exact wpAny_Break (GS .brk .bk vars s g trivial (Po.refl S _) F h)
    | Continue p => exact wpAny_Continue (GS .cont .ct vars s g trivial (Po.refl S _) F h)
    | _ => exact (show False from h).elim
theorem sall_ok (B : Bs w h₀) : ∀ n : Nat, SOk prog w h₀ lev n
  | 0 => fun _z _z _z _z _z _z _z _z _z _z _z _z _z _z _z _z h _z => h.elim
  | n + 1 => sstep B (sall_ok B n)
end
end Mine

namespace Mine
open PySem PySem.W PySem.Calls PyProof.Rows

noncomputable def cellOkN (sc : Scope) (x : Str) : Bool := sc.names.lookup x == some .cell && ((cellsFrom 0 sc.names []).lookup x).isSome
noncomputable def nameOkN (sc : Scope) (x : Str) : Bool := sc.names.lookup x == some .local || cellOkN sc x
noncomputable def cellN (sc : Scope) : List Str := (sc.names.filter fun e => cellOkN sc e.1).map (·.1)
noncomputable def stN (sc : Scope) : List Str := (sc.names.filter fun e => nameOkN sc e.1).map (·.1)
noncomputable def parN (a : Arguments) : List Str := a.args.map (·.arg)
noncomputable def zipV : List Str → List SV → Vars
  | x :: xs, v :: vs => (x, v) :: zipV xs vs
  | _, _ => []
theorem zipV_e1 {l : List SV} : zipV [] l = [] := rfl
theorem zipV_e2 {x : Str} {xs : List Str} : zipV (x :: xs) [] = [] := rfl
theorem zipV_e3 {x : Str} {xs : List Str} {v : SV} {vs : List SV} : zipV (x :: xs) (v :: vs) = (x, v) :: zipV xs vs := rfl
noncomputable def scopeOk (sc : Scope) (xs : List Str) : Bool := sc.kind == .function && !sc.isCoroutine && !sc.isGenerator && (sc.names.lookup (sn "__debug__")).isNone && (sc.names.lookup (sn "__classdict__")).isNone && ndupS xs && xs.all (nameOkN sc)
noncomputable def ctD (n : Nat) (Γ : List (Addr × CT)) (U : List (Str × SV)) (xs F st : List Str) (f : Option Stmt) (ds : List SV) : CT := fun args H K =>
  (args.length + ds.length == xs.length) = true ∧ wpS n ⟨(fScope f).names, U, F, Γ⟩ st (zipV xs (args ++ ds)) (fBody f) H fun fl _z H' => endK H.length fl H' K
noncomputable def facts (U : List (Str × SV)) (xs F st : List Str) (f : Option Stmt) : Prop := (parN (fParams f) = xs ∧ (scopeOk (fScope f) xs && F.all (cellOkN (fScope f)) && st.all (nameOkN (fScope f))) = true) ∧ U.map (fun e => lk e.1 gsv) = U.map fun e => some e.2
theorem cellsFrom_some {x : Str} : ∀ (names : List (Str × NameKind)) (n m : Nat) (acc acc' : List (Str × Addr)), ((acc.lookup x).isSome = (acc'.lookup x).isSome) → ((cellsFrom n names acc).lookup x).isSome = ((cellsFrom m names acc').lookup x).isSome
  | [], _, _, _, _, h => h
  | (y, k) :: r, n, m, acc, acc', h => by
    unfold cellsFrom
    split
    · refine cellsFrom_some r _ _ _ _ ?_
      rw [List.lookup_cons, List.lookup_cons]
      split
      · rfl
      · exact h
    · exact cellsFrom_some r _ _ _ _ h
theorem bindL_other {kindOf : Str → Option NameKind} {x : Str} : ∀ {b : List (Str × Value)} {m : Str → Option Value}, (∀ e ∈ b, e.1 ≠ x) → bindL kindOf b m x = m x
  | [], m, _ => rfl
  | (y, v) :: r, m, h => by
    unfold bindL
    rw [bindL_other fun e he => h e (.tail _ he)]
    have : ¬ x = y := fun q => h (y, v) (.head _) q.symm
    split <;> simp [this]
theorem bindC_other {kindOf : Str → Option NameKind} {x : Str} : ∀ {b : List (Str × Value)} {m : Str → Option Value}, (∀ e ∈ b, e.1 ≠ x) → bindC kindOf b m x = m x
  | [], m, _ => rfl
  | (y, v) :: r, m, h => by
    unfold bindC
    rw [bindC_other fun e he => h e (.tail _ he)]
    have : ¬ x = y := fun q => h (y, v) (.head _) q.symm
    split <;> simp [this]
theorem mem_zip_fst {α : Type} {x : Str} {v : α} : ∀ {xs : List Str} {vs : List α}, (x, v) ∈ xs.zip vs → x ∈ xs
  | [], _, h => by simp at h
  | _ :: _, [], h => by simp at h
  | y :: xs, u :: vs, h => by
    rw [List.zip_cons_cons] at h
    rcases List.mem_cons.mp h with e | h
    · rw [(Prod.mk.inj e).1]; exact .head _
    · exact .tail _ (mem_zip_fst h)
set_option tactic.hygienic true in
theorem bind_at {kindOf : Str → Option NameKind} {h : Heap} {r : Nat → Addr} {N : Nat} {x : Str} {sv : SV} : ∀ {xs : List Str} {vs : List Value} {svs : List SV} {m m' : Str → Option Value}, xs.Nodup → SCs h r N vs svs → lk x (zipV xs svs) = some sv →
    ∃ v, SC h r N v sv ∧ (kindOf x = some .local → bindL kindOf (xs.zip vs) m x = some v) ∧ (kindOf x ≠ some .local → bindC kindOf (xs.zip vs) m' x = some v)
  | [], _, _, _, _, _, _, e => by exact noS e
  | _ :: _, _, _, _, _, _, .nil, e => by exact noS e
  | y :: xs, _, _, m, m', nd, .cons (v := v) c q, e => by
    obtain ⟨n1, n2⟩ := List.nodup_cons.mp nd
    rw [zipV_e3, lk_e2] at e
    simp only [List.zip_cons_cons, bindL, bindC]
    by_cases z : y = x
    · subst z
      rw [if_pos rfl] at e
      cases e
      rename_i vs' _
      have no : ∀ e ∈ xs.zip vs', e.1 ≠ y := fun e he q => n1 (q ▸ mem_zip_fst (v := e.2) (x := e.1) he)
      refine ⟨v, c, fun hk => ?_, fun hk => ?_⟩
      · rw [bindL_other no, if_pos hk]; simp
      · rw [bindC_other no, if_neg hk]; simp
    · rw [if_neg z] at e
      exact bind_at n2 q e
section
variable {prog : Program} {w : World} {h₀ : Heap}
theorem SCs.app {h : Heap} {r : Nat → Addr} {N : Nat} : ∀ {a b : List Value} {x y : List SV}, SCs h r N a x → SCs h r N b y → SCs h r N (a ++ b) (x ++ y)
  | _, _, _, _, .nil, q => q
  | _, _, _, _, .cons a p, q => .cons a (SCs.app p q)
theorem Sound.mono {a : Addr} {l l' : Nat} {ct : CT} (S : Sound prog w h₀ a l ct) (h : l ≤ l') : Sound prog w h₀ a l' ct := ⟨S.kp, fun A s g vs args K R hR => S.run A s g vs args K R (hR.less h)⟩
theorem Sound.imp {a : Addr} {l : Nat} {ct ct' : CT} (S : Sound prog w h₀ a l ct) (h : ∀ args H K, ct' args H K → ct args H K) : Sound prog w h₀ a l ct' := ⟨S.kp, fun A s g vs args K R hR St cs hc => S.run A s g vs args K R hR St cs (h _ _ _ hc)⟩
theorem end_ok {s s' : Shared} {g g' : Sg} {fl : FL} {f : Flow} {K : Kv} (P : Po prog w h₀ s g s' g' NoX) (c : FlC s' g' f fl) (h : endK g.H.length fl g'.H K) {Q : Value → Prop} (G : ∀ v sv g2, Po prog w h₀ s g s' g2 NoX → SC s'.heap g2.r g2.H.length v sv → K sv g2.H → Q v) :
    Q (match (generalizing := false) f with | .ret v => v | _ => .none) := by
  unfold endK at h
  obtain ⟨h1, h2, h3⟩ := h
  have P2 := P.sel h1 fun _z hi => gcL_get hi _ _
  refine G _ _ _ P2 ?_ h3
  refine SC.sel ?_ (subN_iff h2)
  cases f <;> cases fl <;> first | exact c.elim | exact .p .none | exact c
noncomputable def BodyOk (prog : Program) (w : World) (h₀ : Heap) (lev : Nat) (cx : Cx) (st : List Str) (vars : Vars) (body : List Stmt) (H : AH) (K : KS) : Prop :=
  ∀ (A : Around) (env : Env) (s : Shared) (g : Sg) (Q : Flow → Shared → Prop) (E : Value → Shared → Prop), Rm A (lev + 1) → CxOk prog w h₀ lev cx env → StOk env st → St prog w h₀ s g → Fe h₀ env vars s g → g.H = H →
    GivesS prog w h₀ env s g K Q → wpAny (model prog w) A (execs body env) Q E s
noncomputable def ctG (prog : Program) (w : World) (h₀ : Heap) (lev : Nat) (Γ : List (Addr × CT)) (U : List (Str × SV)) (xs F st : List Str) (f : Option Stmt) (ds : List SV) : CT := fun args H K =>
  (args.length + ds.length == xs.length) = true ∧ BodyOk prog w h₀ lev ⟨(fScope f).names, U, F, Γ⟩ st (zipV xs (args ++ ds)) (fBody f) H fun fl _z H' => endK H.length fl H' K
theorem def_soundG (B : Bs w h₀) {a : Addr} {name qual : Str} {f : Option Stmt} {dV pm : Value} {ca : Addr} {cvs : List Value} {t : Tok} {lev : Nat} {Γ : List (Addr × CT)} {ds : List SV} {dvs : List Value} (hK : (K w.params).lookup a = some (fo name qual f dV pm (.ref ca)))
    (hC : (K w.params).lookup ca = some (cdo cvs)) (hq : cvs[1]? = some (.str qual t)) {U : List (Str × SV)} {xs Fc st : List Str} (hfa : facts U xs Fc st f) (hds : ∀ h : Heap, ∀ r N, SCs h r N dvs ds)
    (hb : ∀ (s : Shared) (vs : List Value), (K w.params).In s.heap → vs.length + dvs.length = xs.length → BindsTo s (fdata name qual f dV pm (.ref ca)) ⟨vs, []⟩ (xs.zip (vs ++ dvs)))
    (hγ : ∀ a ct, lkC a Γ = some ct → Sound prog w h₀ a lev ct) : Sound prog w h₀ a (lev + 2) (ctG prog w h₀ lev Γ U xs Fc st f ds) := by
  have hk0 := B.k a _ hK
  refine ⟨.inl ⟨_, _, hk0, rfl⟩, fun A s g vs args K R hR S cs h G => ?_⟩
  obtain ⟨hlen, h⟩ := h
  have hlen := beq_iff_eq.mp hlen
  obtain ⟨⟨hxs, hsc⟩, hU⟩ := hfa
  simp only [Bool.and_eq_true] at hsc
  obtain ⟨⟨hsc, hF⟩, hst⟩ := hsc
  have hF := List.all_eq_true.mp hF
  have hst := List.all_eq_true.mp hst
  simp only [scopeOk, Bool.and_eq_true, beq_iff_eq, Bool.not_eq_true', Option.isNone_iff_eq_none, List.all_eq_true] at hsc
  obtain ⟨⟨⟨⟨⟨⟨k1, k2⟩, k3⟩, k4⟩, k5⟩, k6⟩, k7⟩ := hsc
  have hvl := cs.length
  have hdl := (hds s.heap g.r g.H.length).length
  have kc : s.heap.get? ca = some (cdo cvs) := S.keep _ _ (B.k ca _ hC)
  refine codeAny_call_function (fd := fdata name qual f dV pm (.ref ca)) hR.room (S.keep _ _ hk0) rfl k2 k3 rfl ⟨ca, _, cvs.toArray, t, rfl, kc, rfl, by rw [List.getElem?_toArray]; exact hq⟩ ?_
  refine hb s vs (B.k.keeps S.keep) (by omega) _ _ _ _ ?_
  have cellI : ∀ {x : Str} {m : Nat}, cellOkN (fScope f) x = true → (fScope f).names.lookup x = some .cell ∧ ((cellsFrom m (fScope f).names []).lookup x).isSome = true := fun {x m} e => by
    simp only [cellOkN, Bool.and_eq_true, beq_iff_eq] at e
    exact ⟨e.1, by rw [cellsFrom_some (fScope f).names m 0 [] [] rfl]; exact e.2⟩
  have nameI : ∀ {x : Str} {m : Nat}, nameOkN (fScope f) x = true → (fScope f).names.lookup x = some .local ∨ ((fScope f).names.lookup x = some .cell ∧ ((cellsFrom m (fScope f).names []).lookup x).isSome = true) := fun {x m} e => by
    simp only [nameOkN, Bool.or_eq_true, beq_iff_eq] at e
    exact e.imp id cellI
  refine wpAny_newFunctionEnv_cells (scope := fScope f) k1 (fun x hx => nameI (k7 _ (mem_zip_fst (v := x.2) (x := x.1) hx))) fun env he s2 ic => ?_
  have hsc2 : env.scope = fScope f := by rw [he]; rfl
  have hglob : env.globals = mainGlobals := by rw [he]; rfl
  have hbi : env.builtins = builtinsNs := by rw [he]; rfl
  have hcl : env.cells = cellsFrom (s.heap.objs.size + 1) (fScope f).names [] := by rw [he]; rfl
  have hkind : ∀ x, env.kindOf x = (fScope f).names.lookup x := fun x => by rw [← hsc2]; rfl
  obtain ⟨h2, tk2, e2⟩ := ic.toInCall.same
  subst e2
  refine ⟨(B.nolim.keeps S.keep).keeps ic.toInCall.keep, codeAny_func ?_⟩
  have live : env.locals < h2.objs.size := by obtain ⟨o, _, _, e, _⟩ := ic.toInCall.ns; exact Heap.lt_size e
  have hsz : s.heap.objs.size ≤ h2.objs.size := Nat.le_trans ic.toInCall.fresh (Nat.le_of_lt live)
  have P0 : Po prog w h₀ s g { s with heap := h2, toks := tk2 } g NoX := Po.ext S ic.toInCall.keep hsz
  have cs2 : SCs h2 g.r g.H.length (vs ++ dvs) (args ++ ds) := SCs.app (P0.scs cs) (hds _ _ _)
  have labs : ∀ b, s.heap.objs.size ≤ b → ∀ m, m < g.H.length → g.r m ≠ b := fun b hb m hm q => absurd (S.lt hm) (Nat.not_lt_of_le (q ▸ hb))
  have cellHi : ∀ x c, env.cells.lookup x = some c → env.locals < c ∧ s.heap.objs.size ≤ c := fun x c hc => by
    have := ic.above x c (mem_of_lookup hc)
    exact ⟨this, Nat.le_trans ic.toInCall.fresh (Nat.le_of_lt this)⟩
  have F : Fe h₀ env (zipV xs (args ++ ds)) { s with heap := h2, toks := tk2 } g := by
    refine ⟨by rw [hsc2]; exact k1, hglob, hbi, ⟨_, ic.toInCall.ns, fun x sv hx hk => ?_⟩, fun x sv hx hk => ?_, fun x c hc => ?_, fun x y c hx hy => ?_, S.fresh ic.toInCall.fresh, labs _ ic.toInCall.fresh⟩
    · obtain ⟨v, c, h1, _⟩ := bind_at (kindOf := env.kindOf) (m := fun _z => none) (m' := fun _z => none) (ndupS_nodup k6) cs2 hx
      exact ⟨v, h1 hk, c⟩
    · obtain ⟨v, c, _, h1⟩ := bind_at (kindOf := env.kindOf) (m := fun _z => none) (m' := fun _z => none) (ndupS_nodup k6) cs2 hx
      have hm : x ∈ xs := by
        have : ∀ {xs : List Str} {l : List SV}, lk x (zipV xs l) = some sv → x ∈ xs := by
          intro xs
          induction xs with
          | nil => intro l e; exact noS e
          | cons y xs ih =>
            intro l e
            cases l with
            | nil => exact noS e
            | cons u l =>
              rw [zipV_e3, lk_e2] at e
              by_cases z : y = x
              · rw [z]; exact .head _
              · rw [if_neg z] at e; exact .tail _ (ih e)
        exact this hx
      rcases nameI (m := s.heap.objs.size + 1) (k7 _ hm) with q | ⟨q1, q2⟩
      · rw [hkind, q] at hk; exact absurd rfl hk
      · obtain ⟨cc, hcc⟩ := Option.isSome_iff_exists.mp q2
        have hcc : env.cells.lookup x = some cc := by rw [hcl]; exact hcc
        refine ⟨.inl (by rw [hkind]; exact q1), cc, v, hcc, ?_, c⟩
        rw [← h1 hk]
        exact ic.cell x cc hcc
    · obtain ⟨h1, h3⟩ := cellHi x c hc
      exact ⟨⟨_, ic.cell x c hc⟩, Nat.ne_of_gt h1, S.fresh h3, labs _ h3⟩
    · exact name_of_addr ic.apart (mem_of_lookup hx) (mem_of_lookup hy)
  have C : CxOk prog w h₀ lev ⟨(fScope f).names, U, Fc, Γ⟩ env := by
    refine ⟨fun x hx => ?_, fun x sv hx => ?_, fun x hx => ?_, ⟨by rw [hkind]; exact k4, by rw [hkind]; exact k5⟩, hγ⟩
    · rw [hkind]; exact hx
    · exact (List.map_inj_left.mp hU) _ (lk_mem hx)
    · obtain ⟨q1, q2⟩ := cellI (m := s.heap.objs.size + 1) (hF x hx)
      refine ⟨.inl (by rw [hkind]; exact q1), ?_⟩
      rw [hcl]
      exact Option.isSome_iff_exists.mp q2
  have T : StOk env st := by
    refine ⟨fun x hx => ?_⟩
    rcases nameI (m := s.heap.objs.size + 1) (hst x hx) with q | ⟨q1, q2⟩
    · exact .inl (by rw [hkind]; exact q)
    · refine .inr ⟨by rw [hkind]; exact q1, ?_⟩
      rw [hcl]
      exact Option.isSome_iff_exists.mp q2
  have R1 : Rm (A.deeper env) (lev + 1) := ⟨hR.hd, by have := hR.dp; show A.depth + 1 + _ ≤ _; omega, by have := hR.un; rw [Around.deeper_units]; omega⟩
  refine h (A.deeper env) env _ g _ _ R1 C T P0.st F rfl fun fl' fl vars' s' g' c' P' F' k' => ?_
  have P1 : Po prog w h₀ s g s' g' NoX := ((P0.weak (Y := XF env) fun _z q => q.elim).trans' P').dropX fun b q => by
    rcases q with rfl | ⟨x, q⟩
    · exact ic.toInCall.fresh
    · exact (cellHi x b q).2
  exact end_ok P1 c' k' (Q := fun v => R (.ok (.ret v)) s') fun v sv g2 P2 c2 k2 => G v sv s' g2 P2 c2 k2
theorem def_sound (B : Bs w h₀) {a : Addr} {name qual : Str} {f : Option Stmt} {dV pm : Value} {ca : Addr} {cvs : List Value} {t : Tok} {lev n : Nat} {Γ : List (Addr × CT)} {ds : List SV} {dvs : List Value} (hK : (K w.params).lookup a = some (fo name qual f dV pm (.ref ca)))
    (hC : (K w.params).lookup ca = some (cdo cvs)) (hq : cvs[1]? = some (.str qual t)) {U : List (Str × SV)} {xs Fc st : List Str} (hfa : facts U xs Fc st f) (hds : ∀ h : Heap, ∀ r N, SCs h r N dvs ds)
    (hb : ∀ (s : Shared) (vs : List Value), (K w.params).In s.heap → vs.length + dvs.length = xs.length → BindsTo s (fdata name qual f dV pm (.ref ca)) ⟨vs, []⟩ (xs.zip (vs ++ dvs)))
    (hγ : ∀ a ct, lkC a Γ = some ct → Sound prog w h₀ a lev ct) : Sound prog w h₀ a (lev + 2) (ctD n Γ U xs Fc st f ds) :=
  (def_soundG B hK hC hq hfa hds hb hγ).imp fun _z _z _z h => ⟨h.1, fun A env s g Q E R C T S F e G => sall_ok B n A env _ _ _ _ s g _ Q E R C T S F (e ▸ h.2) G⟩
end
end Mine

namespace Mine
open PySem PySem.W PySem.Calls PyProof.Rows

noncomputable def ctC (c : Addr) (ct : CT) : CT := fun args H K => ct (.ref (H.length + 1) :: args) (H ++ [.ns [], .inst c H.length]) fun v H' => v = .p .none ∧ K (.ref (H.length + 1)) H'
theorem typeCall_weight (args : Args) : (Code.builtin "type.__call__" args).weight ≤ 4 ∧ (Code.builtin "type.__call__" args).cUnits ≤ 8 := by
  refine ⟨?_, ?_⟩
  · show _ + _ + _ + _ ≤ 4
    rw [show (Code.builtin "type.__call__" args).frames = 0 from rfl, show (Code.builtin "type.__call__" args).isCaller = false from rfl]
    split <;> split <;> simp
  · show 1 + 3 * (Code.builtin "type.__call__" args).frames ≤ 8
    rw [show (Code.builtin "type.__call__" args).frames = 0 from rfl]
    decide
section
variable {prog : Program} {w : World} {h₀ : Heap}
theorem cls_sound (B : Bs w h₀) {C fI : Addr} {lev : Nat} {ct : CT} {cls : Value} {dict : Option Addr} {cd : ClassData} {sl : Array (Option Value)} (hC : (K w.params).lookup C = some ⟨cls, dict, .cls cd, sl⟩) (hsp : specialIn (K w.params) (.ref C) "__call__" = some (some (.builtin "type.__call__")))
    (hm : makesIn (K w.params) C = true) (hi : findIn (K w.params) (.ref C) "__init__" = some (some (.ref fI))) (hf : typeIn (K w.params) (.ref fI) = some (.type "function")) (SI : Sound prog w h₀ fI lev ct) : Sound prog w h₀ C (lev + 4) (ctC C ct) := by
  refine ⟨.inr fun A s Q E keep h => ?_, fun A s g vs args K R hR S cs h G => ?_⟩
  · have X := B.k.keeps keep
    have L : Looks (model prog w) s.heap (keeperOf (.ref C)) .machine := by
      refine (Looks.ld (part := none) (X _ _ hC)).andThen ?_
      exact (looks_specialIn X hsp).andThen .now
    exact L.here h
  · obtain ⟨hh, gg, d, t, os⟩ := s
    have X := B.k.keeps S.keep
    refine make_core (makes_of X hm) (looks_findIn X hi) (fun self => bind_fn X self hf) (.inl rfl) ?_
    have P1 := Po.add S (tk' := t) (h' := hh.push emptyDict) (a := hh.objs.size) (o := .ns []) (fun b o e => Heap.get?_push_of_some _ e) (by rw [Heap.size_push]; exact Nat.le_succ _) (Nat.le_refl _) ⟨[], 0, Heap.get?_push_size _ rfl, .nil⟩ (by intro e; cases e)
    have hl : (g.add hh.objs.size (.ns [])).H.length = g.H.length + 1 := by simp [Sg.add]
    have r0 : (g.add hh.objs.size (.ns [])).r g.H.length = hh.objs.size := if_pos rfl
    have sz : (hh.push emptyDict).objs.size = hh.objs.size + 1 := Heap.size_push ..
    have r1 : ((g.add hh.objs.size (.ns [])).add (hh.objs.size + 1) (.inst C g.H.length)).r g.H.length = hh.objs.size := by
      have : ((g.add hh.objs.size (.ns [])).add (hh.objs.size + 1) (.inst C g.H.length)).r g.H.length = (g.add hh.objs.size (.ns [])).r g.H.length := if_neg (by rw [hl]; omega)
      rw [this, r0]
    have hH : ((g.add hh.objs.size (.ns [])).add (hh.objs.size + 1) (.inst C g.H.length)).H = g.H ++ [.ns [], .inst C g.H.length] := by simp [Sg.add]
    have P2 := Po.add P1.st (tk' := t) (h' := (hh.push emptyDict).push (instObj C hh.objs.size)) (a := hh.objs.size + 1) (o := .inst C g.H.length) (fun b o e => Heap.get?_push_of_some _ e) (by show (hh.push emptyDict).objs.size ≤ ((hh.push emptyDict).push _).objs.size; exact Nat.le_of_lt (by rw [Heap.size_push (hh.push emptyDict)]; exact Nat.lt_succ_self _)) (by show (hh.push emptyDict).objs.size ≤ _; rw [sz]; exact Nat.le_refl _)
      ⟨by rw [hH]; simp, by rw [r1, ← sz]; exact Heap.get?_push_size _ rfl⟩ (by intro e; cases e)
    have P12 := P1.trans' P2
    have cself : SC ((hh.push emptyDict).push (instObj C hh.objs.size)) ((g.add hh.objs.size (.ns [])).add (hh.objs.size + 1) (.inst C g.H.length)).r ((g.add hh.objs.size (.ns [])).add (hh.objs.size + 1) (.inst C g.H.length)).H.length (.ref (hh.objs.size + 1)) (.ref (g.H.length + 1)) := by
      have := Sg.add_ref (g.add hh.objs.size (.ns [])) (hh.objs.size + 1) (.inst C g.H.length) ((hh.push emptyDict).push (instObj C hh.objs.size))
      rwa [hl] at this
    obtain ⟨w1, w2⟩ := typeCall_weight ⟨.ref C :: vs, []⟩
    have R1 : Rm (A.under (.builtin "type.__call__" ⟨.ref C :: vs, []⟩)) lev := ⟨hR.hd, by have := hR.dp; show A.depth + _ + _ ≤ _; omega, by have := hR.un; show A.units + _ + _ + _ ≤ _; omega⟩
    refine SI.run _ _ _ _ (.ref (g.H.length + 1) :: args) (fun v H' => v = .p .none ∧ K (.ref (g.H.length + 1)) H') _ R1 P2.st (.cons cself (P12.scs cs)) ?_ fun v sv s' g' P c k => ?_
    · rw [hH]; exact h
    · obtain ⟨rfl, k⟩ := k
      cases c with | p c => cases c with | none => exact ⟨rfl, G _ _ s' g' (P12.trans' P) (P.sc cself) k⟩
end
end Mine

namespace Mine
open PySem PySem.W PySem.Calls PyProof.Rows

theorem drec {b : Bool} {F : ¬ (b = true) → Prop} {T : b = true → Prop} (h1 : ∀ e : b = true, T e) (h2 : ∀ e : b = false, F (by rw [e]; decide)) : @Decidable.rec (b = true) (fun _z => Prop) F T (instDecidableEqBool b true) := by
  cases b with
  | true => exact h1 rfl
  | false => exact h2 rfl
theorem drecG {b c : Bool} {F : ¬ (b = c) → Prop} {T : b = c → Prop} (h1 : ∀ e : b = c, T e) (h2 : ∀ e : ¬ (b = c), F e) : @Decidable.rec (b = c) (fun _z => Prop) F T (instDecidableEqBool b c) := by
  cases q : instDecidableEqBool b c with
  | isTrue e => exact h1 e
  | isFalse e => exact h2 e
theorem iteB {b : Bool} {A B : Prop} (h1 : b = true → A) (h2 : b = false → B) : if b = true then A else B := by
  cases b with
  | true => exact h1 rfl
  | false => exact h2 rfl
noncomputable def U97 : List (Str × SV) := [(sn "isinstance", .raw (.builtin "isinstance")), (sn "int", .raw (.type "int")), (sn "bool", .raw (.type "bool"))]
theorem f97 : facts U97 [sn "value", sn "low", sn "high"] [] [] (tl 9) := ⟨⟨by kernel_rfl, by kernel_rfl⟩, by kernel_rfl⟩
noncomputable def intC (l : List SV) (k : Int → List SV → Prop) : Prop := match l with
  | [] => False
  | a :: r => (match a with
    | .p x => (match x with
      | .int v => k v r
      | _ => False)
    | _ => False)
theorem intC_of {l : List SV} {k : Int → List SV → Prop} (h : intC l k) : ∃ v r, l = .p (.int v) :: r ∧ k v r := by
  cases l with
  | nil => exact (show False from h).elim
  | cons a r => cases a with
    | p x => cases x with
      | int v => exact ⟨v, r, rfl, h⟩
      | _ => exact (show False from h).elim
    | _ => exact (show False from h).elim
noncomputable def ct97 : CT := fun args H K => intC args fun v r => intC r fun lo r => intC r fun hi r => r = [] ∧ H = [] ∧ K (.p (.bool (decide (lo ≤ v ∧ v ≤ hi)))) []
theorem t97 : ∀ args H K, ct97 args H K → ctD 6 [] U97 [sn "value", sn "low", sn "high"] [] [] (tl 9) [] args H K := by
  intro args H K h0
  obtain ⟨v, _, rfl, h1⟩ := intC_of h0
  obtain ⟨lo, _, rfl, h2⟩ := intC_of h1
  obtain ⟨hi, _, rfl, rfl, rfl, h⟩ := intC_of h2
  clear h0 h1 h2
  ((conv => whnf); repeat (refine ⟨rfl, ?_⟩; conv => whnf))
  refine drec (fun e => ?_) (fun e => ?_)
  · ((conv => whnf); repeat (refine ⟨rfl, ?_⟩; conv => whnf))
    have e : lo ≤ v := of_decide_eq_true e
    have : decide (lo ≤ v ∧ v ≤ hi) = decide (v ≤ hi) := by simp [e]
    rw [this] at h
    exact h
  · ((conv => whnf); repeat (refine ⟨rfl, ?_⟩; conv => whnf))
    have e : ¬ lo ≤ v := of_decide_eq_false e
    have : decide (lo ≤ v ∧ v ≤ hi) = false := by simp [e]
    rw [this] at h
    exact h
noncomputable def Im (P G : Prop) : Prop := P → G
noncomputable def Px (_ : Prop) : Prop := True
theorem px {P G : Prop} (_ : Im P G) : Px P := trivial
theorem sgP {A P R : Prop} (k : Im P R) : Im (A ∧ P) (A ∧ R) := fun h => ⟨h.1, k h.2⟩
theorem sgA {A P R : Prop} (_ : A) (k : Im P R) : Im (A ∧ P) (A ∧ R) := fun h => ⟨h.1, k h.2⟩
theorem sgT {b : Bool} {P R : Prop} (e : b = true) (k : Im P R) : Im (true = true ∧ P) (b = true ∧ R) := fun h => ⟨e, k h.2⟩
theorem tt {R : Prop} (h : R) : true = true ∧ R := ⟨rfl, h⟩
theorem sgI {P : Prop} : Im P P := fun h => h
theorem segM {P G : Prop} (_ : Px P) (e : P = G) (p : P) : G := e ▸ p
theorem ex2 {α0 α1 : Type} {P : α0 → α1 → Prop} (a0 : α0) (a1 : α1) (p : P a0 a1) : ∃ x0 x1, P x0 x1 := ⟨a0, a1, p⟩
theorem ex3 {α0 α1 α2 : Type} {P : α0 → α1 → α2 → Prop} (a0 : α0) (a1 : α1) (a2 : α2) (p : P a0 a1 a2) : ∃ x0 x1 x2, P x0 x1 x2 := ⟨a0, a1, a2, p⟩
theorem ex4 {α0 α1 α2 α3 : Type} {P : α0 → α1 → α2 → α3 → Prop} (a0 : α0) (a1 : α1) (a2 : α2) (a3 : α3) (p : P a0 a1 a2 a3) : ∃ x0 x1 x2 x3, P x0 x1 x2 x3 := ⟨a0, a1, a2, a3, p⟩
theorem ex5 {α0 α1 α2 α3 α4 : Type} {P : α0 → α1 → α2 → α3 → α4 → Prop} (a0 : α0) (a1 : α1) (a2 : α2) (a3 : α3) (a4 : α4) (p : P a0 a1 a2 a3 a4) : ∃ x0 x1 x2 x3 x4, P x0 x1 x2 x3 x4 := ⟨a0, a1, a2, a3, a4, p⟩
theorem ex6 {α0 α1 α2 α3 α4 α5 : Type} {P : α0 → α1 → α2 → α3 → α4 → α5 → Prop} (a0 : α0) (a1 : α1) (a2 : α2) (a3 : α3) (a4 : α4) (a5 : α5) (p : P a0 a1 a2 a3 a4 a5) : ∃ x0 x1 x2 x3 x4 x5, P x0 x1 x2 x3 x4 x5 := ⟨a0, a1, a2, a3, a4, a5, p⟩
theorem ex7 {α0 α1 α2 α3 α4 α5 α6 : Type} {P : α0 → α1 → α2 → α3 → α4 → α5 → α6 → Prop} (a0 : α0) (a1 : α1) (a2 : α2) (a3 : α3) (a4 : α4) (a5 : α5) (a6 : α6) (p : P a0 a1 a2 a3 a4 a5 a6) : ∃ x0 x1 x2 x3 x4 x5 x6, P x0 x1 x2 x3 x4 x5 x6 := ⟨a0, a1, a2, a3, a4, a5, a6, p⟩
theorem ex8 {α0 α1 α2 α3 α4 α5 α6 α7 : Type} {P : α0 → α1 → α2 → α3 → α4 → α5 → α6 → α7 → Prop} (a0 : α0) (a1 : α1) (a2 : α2) (a3 : α3) (a4 : α4) (a5 : α5) (a6 : α6) (a7 : α7) (p : P a0 a1 a2 a3 a4 a5 a6 a7) : ∃ x0 x1 x2 x3 x4 x5 x6 x7, P x0 x1 x2 x3 x4 x5 x6 x7 := ⟨a0, a1, a2, a3, a4, a5, a6, a7, p⟩
theorem forK_ind {S : Bv} {x : Str} {body : List Stmt} {N : Nat} {K : KS} (J : List PV → Vars → AH → Prop)
    (hstep : ∀ i r vars H (Kt : Vars → AH → Prop), J (i :: r) vars H → (∀ v3 H3, J r v3 H3 → Kt v3 H3) → S (put x (.p i) vars) body H (turnK N vars K Kt))
    (hend : ∀ vars H, J [] vars H → K .nx vars H) : ∀ l vars H, J l vars H → forK S x body N l vars H K
  | [], vars, H, h => hend vars H h
  | i :: r, vars, H, h => hstep i r vars H (fun v3 H3 => forK S x body N r v3 H3 K) h fun v3 H3 h3 => forK_ind J hstep hend r v3 H3 h3
theorem forK2_ind {S : Bv} {a b : Str} {body : List Stmt} {N : Nat} {K : KS} (J : List (Int × Int) → Vars → AH → Prop)
    (hstep : ∀ ij r vars H (Kt : Vars → AH → Prop), J (ij :: r) vars H → (∀ v3 H3, J r v3 H3 → Kt v3 H3) → S (put b (.p (.int ij.2)) (put a (.p (.int ij.1)) vars)) body H (turnK N vars K Kt))
    (hend : ∀ vars H, J [] vars H → K .nx vars H) : ∀ l vars H, J l vars H → forK2 S a b body N l vars H K
  | [], vars, H, h => hend vars H h
  | ij :: r, vars, H, h => hstep ij r vars H (fun v3 H3 => forK2 S a b body N r v3 H3 K) h fun v3 H3 h3 => forK2_ind J hstep hend r v3 H3 h3
theorem whileK_ind {T : Vars → Tv1} {S : Bv} {test : Expr} {body : List Stmt} {N : Nat} {K : KS} (J : Nat → Vars → AH → Prop)
    (hstep : ∀ m vars H (Kt : Vars → AH → Prop), J m vars H → (∀ j v3 H3, j < m → J j v3 H3 → Kt v3 H3) → T vars test H fun b H1 => if b = true then S vars body H1 (turnK N vars K Kt) else K .nx vars H1)
    (hup : ∀ m k vars H, m ≤ k → J m vars H → J k vars H) : ∀ m vars H, J m vars H → whileK T S test body N (m + 1) vars H K
  | 0, vars, H, h => hstep 0 vars H _ h fun j _z _z hj _z => absurd hj (Nat.not_lt_zero _)
  | m + 1, vars, H, h => hstep (m + 1) vars H (fun v3 H3 => whileK T S test body N (m + 1) v3 H3 K) h fun j v3 H3 hj h3 => whileK_ind J hstep hup m v3 H3 (hup j m v3 H3 (Nat.le_of_lt_succ hj) h3)
theorem whileK_ind2 {T : Vars → Tv1} {S : Bv} {test : Expr} {body : List Stmt} {N : Nat} {K : KS} (J : Nat → Vars → AH → Prop) (X : Vars → AH → Prop)
    (hstep : ∀ m vars H (Kt : Vars → AH → Prop) (Ke : KS), J m vars H → (∀ j v3 H3, j < m → J j v3 H3 → Kt v3 H3) → (∀ v H, X v H → Ke .nx v H) → T vars test H fun b H1 => if b = true then S vars body H1 (turnK N vars Ke Kt) else Ke .nx vars H1)
    (hup : ∀ m k vars H, m ≤ k → J m vars H → J k vars H) (hx : ∀ v H, X v H → K .nx v H) : ∀ m vars H, J m vars H → whileK T S test body N (m + 1) vars H K :=
  whileK_ind J (fun m vars H Kt h1 h2 => hstep m vars H Kt K h1 h2 hx) hup
theorem compK_ind {E : Cx → Vars → Ev1} {T : Cx → Vars → Tv1} {cx : Cx} {vars : Vars} {x : Str} {ifs : List Expr} {elt : Expr} {K : List PV → AH → Prop} (J : List PV → List PV → AH → Prop)
    (hstep : ∀ i r acc H (Kt : List PV → AH → Prop), J (i :: r) acc H → (∀ a3 H3, J r a3 H3 → Kt a3 H3) → boolT (T cx (put x (.p i) vars)) .And ifs H fun b H1 => if b = true then E cx (put x (.p i) vars) elt H1 fun v H2 => asPV v fun y => acc.length ≤ 2 ^ 20 ∧ Kt (acc ++ [y]) H2
      else Kt acc H1)
    (hend : ∀ acc H, J [] acc H → K acc H) : ∀ l acc H, J l acc H → compK E T cx vars x ifs elt l acc H K
  | [], acc, H, h => hend acc H h
  | i :: r, acc, H, h => hstep i r acc H (fun a3 H3 => compK E T cx vars x ifs elt r a3 H3 K) h fun a3 H3 h3 => compK_ind J hstep hend r a3 H3 h3
end Mine

namespace Mine
open PySem PySem.W PySem.Calls PyProof.Rows

theorem ln0 {vs : List Value} {k : Nat} (h : vs.length + k = k) : vs = [] := List.eq_nil_of_length_eq_zero (by omega)
theorem ln1 {vs : List Value} {k : Nat} (h : vs.length + k = k + 1) : ∃ a, vs = [a] := by
  match vs, h with
  | [a], _ => exact ⟨a, rfl⟩
  | [], h => simp at h
  | _ :: _ :: _, h => simp at h; omega
theorem ln2 {vs : List Value} {k : Nat} (h : vs.length + k = k + 2) : ∃ a b, vs = [a, b] := by
  match vs, h with
  | a :: r, h => obtain ⟨b, rfl⟩ := ln1 (vs := r) (k := k) (by simp at h; omega); exact ⟨a, b, rfl⟩
  | [], h => simp at h
theorem ln3 {vs : List Value} {k : Nat} (h : vs.length + k = k + 3) : ∃ a b c, vs = [a, b, c] := by
  match vs, h with
  | a :: r, h => obtain ⟨b, c, rfl⟩ := ln2 (vs := r) (k := k) (by simp at h; omega); exact ⟨a, b, c, rfl⟩
  | [], h => simp at h
theorem ln4 {vs : List Value} {k : Nat} (h : vs.length + k = k + 4) : ∃ a b c d, vs = [a, b, c, d] := by
  match vs, h with
  | a :: r, h => obtain ⟨b, c, d, rfl⟩ := ln3 (vs := r) (k := k) (by simp at h; omega); exact ⟨a, b, c, d, rfl⟩
  | [], h => simp at h
section
variable {prog : Program} {w : World} {h₀ : Heap} {lev n : Nat} {Γ : List (Addr × CT)} {U : List (Str × SV)} {F st : List Str}
noncomputable def cv97 : List Value := [(.str (sn "is_whole") 296), (.str (sn "is_whole") 297), (.str (sn "/claim/cut.py") 298), (.int 19 0), (.int 3 0), (.int 0 0), (.int 0 0), (.int 3 0), (.ref 91), (.bool true), (.int 181 0), (.ref 92), .none, (.ref 93), (.ref 94), (.ref 95), (.int 302 0), (.int 19 0), (.str (sn "/claim/cut.py") 303)]
theorem lk97 (P : Params) : (K P).lookup 97 = some (fo (sn "is_whole") (sn "is_whole") (tl 9) .none (.str (sn "gluepage.scaled") 288) (.ref 96)) ∧ (K P).lookup 96 = some (cdo cv97) := ⟨by kernel_rfl, by kernel_rfl⟩
theorem sd97 (B : Bs w h₀) (hfa : facts U [sn "value", sn "low", sn "high"] F st (tl 9)) (hγ : ∀ a ct, lkC a Γ = some ct → Sound prog w h₀ a lev ct) : Sound prog w h₀ 97 (lev + 2) (ctD n Γ U [sn "value", sn "low", sn "high"] F st (tl 9) []) := by
  refine def_sound (dvs := []) B (lk97 _).1 (lk97 _).2 (t := 297) (by rfl) hfa (fun _z _z _z => .nil) (fun s vs X hl => ?_) hγ
  obtain ⟨a, b, c, rfl⟩ := ln3 (k := 0) hl
  exact BindsTo.of_eq (by rfl)
noncomputable def cv104 : List Value := [(.str (sn "check_whole") 305), (.str (sn "check_whole") 306), (.str (sn "/claim/cut.py") 307), (.int 21 0), (.int 1 0), (.int 0 0), (.int 0 0), (.int 3 0), (.ref 98), (.bool true), (.int 181 0), (.ref 99), .none, (.ref 100), (.ref 101), (.ref 102), (.int 309 0), (.int 21 0), (.str (sn "/claim/cut.py") 310)]
theorem lk104 (P : Params) : (K P).lookup 104 = some (fo (sn "check_whole") (sn "check_whole") (tl 10) .none (.str (sn "gluepage.scaled") 288) (.ref 103)) ∧ (K P).lookup 103 = some (cdo cv104) := ⟨by kernel_rfl, by kernel_rfl⟩
theorem sd104 (B : Bs w h₀) (hfa : facts U [sn "value"] F st (tl 10)) (hγ : ∀ a ct, lkC a Γ = some ct → Sound prog w h₀ a lev ct) : Sound prog w h₀ 104 (lev + 2) (ctD n Γ U [sn "value"] F st (tl 10) []) := by
  refine def_sound (dvs := []) B (lk104 _).1 (lk104 _).2 (t := 306) (by rfl) hfa (fun _z _z _z => .nil) (fun s vs X hl => ?_) hγ
  obtain ⟨a, rfl⟩ := ln1 (k := 0) hl
  exact BindsTo.of_eq (by rfl)
noncomputable def cv111 : List Value := [(.str (sn "check_number") 312), (.str (sn "check_number") 313), (.str (sn "/claim/cut.py") 314), (.int 25 0), (.int 1 0), (.int 0 0), (.int 0 0), (.int 3 0), (.ref 105), (.bool true), (.int 181 0), (.ref 106), .none, (.ref 107), (.ref 108), (.ref 109), (.int 316 0), (.int 25 0), (.str (sn "/claim/cut.py") 317)]
theorem lk111 (P : Params) : (K P).lookup 111 = some (fo (sn "check_number") (sn "check_number") (tl 11) .none (.str (sn "gluepage.scaled") 288) (.ref 110)) ∧ (K P).lookup 110 = some (cdo cv111) := ⟨by kernel_rfl, by kernel_rfl⟩
theorem sd111 (B : Bs w h₀) (hfa : facts U [sn "value"] F st (tl 11)) (hγ : ∀ a ct, lkC a Γ = some ct → Sound prog w h₀ a lev ct) : Sound prog w h₀ 111 (lev + 2) (ctD n Γ U [sn "value"] F st (tl 11) []) := by
  refine def_sound (dvs := []) B (lk111 _).1 (lk111 _).2 (t := 313) (by rfl) hfa (fun _z _z _z => .nil) (fun s vs X hl => ?_) hγ
  obtain ⟨a, rfl⟩ := ln1 (k := 0) hl
  exact BindsTo.of_eq (by rfl)
noncomputable def cv134 : List Value := [(.str (sn "is_token") 437), (.str (sn "is_token") 438), (.str (sn "/claim/cut.py") 439), (.int 38 0), (.int 1 0), (.int 0 0), (.int 0 0), (.int 3 0), (.ref 128), (.bool true), (.int 181 0), (.ref 129), .none, (.ref 130), (.ref 131), (.ref 132), (.int 441 0), (.int 38 0), (.str (sn "/claim/cut.py") 442)]
theorem lk134 (P : Params) : (K P).lookup 134 = some (fo (sn "is_token") (sn "is_token") (tl 21) .none (.str (sn "gluepage.tokens") 319) (.ref 133)) ∧ (K P).lookup 133 = some (cdo cv134) := ⟨by kernel_rfl, by kernel_rfl⟩
theorem sd134 (B : Bs w h₀) (hfa : facts U [sn "token"] F st (tl 21)) (hγ : ∀ a ct, lkC a Γ = some ct → Sound prog w h₀ a lev ct) : Sound prog w h₀ 134 (lev + 2) (ctD n Γ U [sn "token"] F st (tl 21) []) := by
  refine def_sound (dvs := []) B (lk134 _).1 (lk134 _).2 (t := 438) (by rfl) hfa (fun _z _z _z => .nil) (fun s vs X hl => ?_) hγ
  obtain ⟨a, rfl⟩ := ln1 (k := 0) hl
  exact BindsTo.of_eq (by rfl)
noncomputable def cv141 : List Value := [(.str (sn "check_text") 444), (.str (sn "check_text") 445), (.str (sn "/claim/cut.py") 446), (.int 42 0), (.int 1 0), (.int 0 0), (.int 0 0), (.int 3 0), (.ref 135), (.bool true), (.int 181 0), (.ref 136), .none, (.ref 137), (.ref 138), (.ref 139), (.int 449 0), (.int 42 0), (.str (sn "/claim/cut.py") 450)]
theorem lk141 (P : Params) : (K P).lookup 141 = some (fo (sn "check_text") (sn "check_text") (tl 22) .none (.str (sn "gluepage.tokens") 319) (.ref 140)) ∧ (K P).lookup 140 = some (cdo cv141) := ⟨by kernel_rfl, by kernel_rfl⟩
theorem sd141 (B : Bs w h₀) (hfa : facts U [sn "text"] F st (tl 22)) (hγ : ∀ a ct, lkC a Γ = some ct → Sound prog w h₀ a lev ct) : Sound prog w h₀ 141 (lev + 2) (ctD n Γ U [sn "text"] F st (tl 22) []) := by
  refine def_sound (dvs := []) B (lk141 _).1 (lk141 _).2 (t := 445) (by rfl) hfa (fun _z _z _z => .nil) (fun s vs X hl => ?_) hγ
  obtain ⟨a, rfl⟩ := ln1 (k := 0) hl
  exact BindsTo.of_eq (by rfl)
noncomputable def cv156 : List Value := [(.str (sn "__init__") 464), (.str (sn "Names.__init__") 465), (.str (sn "/claim/cut.py") 466), (.int 50 0), (.int 2 0), (.int 0 0), (.int 0 0), (.int 3 0), (.ref 150), (.bool true), (.int 181 0), (.ref 151), .none, (.ref 152), (.ref 153), (.ref 154), (.int 469 0), (.int 50 0), (.str (sn "/claim/cut.py") 470)]
theorem lk156 (P : Params) : (K P).lookup 156 = some (fo (sn "__init__") (sn "Names.__init__") (cl 23 0) (.ref 149) (.str (sn "gluepage.tokens") 319) (.ref 155)) ∧ (K P).lookup 155 = some (cdo cv156) := ⟨by kernel_rfl, by kernel_rfl⟩
theorem lkT156 (P : Params) : (K P).lookup 149 = some (tupo [(.int 1048576 365)]) := by kernel_rfl
theorem sd156 (B : Bs w h₀) (hfa : facts U [sn "self", sn "most"] F st (cl 23 0)) (hγ : ∀ a ct, lkC a Γ = some ct → Sound prog w h₀ a lev ct) : Sound prog w h₀ 156 (lev + 2) (ctD n Γ U [sn "self", sn "most"] F st (cl 23 0) [.p (.int 1048576)]) := by
  refine def_sound (dvs := [.int 1048576 365]) B (lk156 _).1 (lk156 _).2 (t := 465) (by rfl) hfa (fun _z _z _z => .cons (.p (.int _ _)) .nil) (fun s vs X hl => ?_) hγ
  obtain ⟨a, rfl⟩ := ln1 (k := 1) hl
  exact BindsTo.of_defaults (o := tupo [(.int 1048576 365)]) rfl (X _ _ (lkT156 _)) rfl rfl rfl
noncomputable def cv163 : List Value := [(.str (sn "find") 472), (.str (sn "Names.find") 473), (.str (sn "/claim/cut.py") 474), (.int 57 0), (.int 2 0), (.int 0 0), (.int 0 0), (.int 3 0), (.ref 157), (.bool true), (.int 181 0), (.ref 158), .none, (.ref 159), (.ref 160), (.ref 161), (.int 477 0), (.int 57 0), (.str (sn "/claim/cut.py") 478)]
theorem lk163 (P : Params) : (K P).lookup 163 = some (fo (sn "find") (sn "Names.find") (cl 23 1) .none (.str (sn "gluepage.tokens") 319) (.ref 162)) ∧ (K P).lookup 162 = some (cdo cv163) := ⟨by kernel_rfl, by kernel_rfl⟩
theorem sd163 (B : Bs w h₀) (hfa : facts U [sn "self", sn "text"] F st (cl 23 1)) (hγ : ∀ a ct, lkC a Γ = some ct → Sound prog w h₀ a lev ct) : Sound prog w h₀ 163 (lev + 2) (ctD n Γ U [sn "self", sn "text"] F st (cl 23 1) []) := by
  refine def_sound (dvs := []) B (lk163 _).1 (lk163 _).2 (t := 473) (by rfl) hfa (fun _z _z _z => .nil) (fun s vs X hl => ?_) hγ
  obtain ⟨a, b, rfl⟩ := ln2 (k := 0) hl
  exact BindsTo.of_eq (by rfl)
noncomputable def cv170 : List Value := [(.str (sn "number") 480), (.str (sn "Names.number") 481), (.str (sn "/claim/cut.py") 482), (.int 61 0), (.int 2 0), (.int 0 0), (.int 0 0), (.int 3 0), (.ref 164), (.bool true), (.int 181 0), (.ref 165), .none, (.ref 166), (.ref 167), (.ref 168), (.int 486 0), (.int 61 0), (.str (sn "/claim/cut.py") 487)]
theorem lk170 (P : Params) : (K P).lookup 170 = some (fo (sn "number") (sn "Names.number") (cl 23 2) .none (.str (sn "gluepage.tokens") 319) (.ref 169)) ∧ (K P).lookup 169 = some (cdo cv170) := ⟨by kernel_rfl, by kernel_rfl⟩
theorem sd170 (B : Bs w h₀) (hfa : facts U [sn "self", sn "text"] F st (cl 23 2)) (hγ : ∀ a ct, lkC a Γ = some ct → Sound prog w h₀ a lev ct) : Sound prog w h₀ 170 (lev + 2) (ctD n Γ U [sn "self", sn "text"] F st (cl 23 2) []) := by
  refine def_sound (dvs := []) B (lk170 _).1 (lk170 _).2 (t := 481) (by rfl) hfa (fun _z _z _z => .nil) (fun s vs X hl => ?_) hγ
  obtain ⟨a, b, rfl⟩ := ln2 (k := 0) hl
  exact BindsTo.of_eq (by rfl)
noncomputable def cv177 : List Value := [(.str (sn "text") 489), (.str (sn "Names.text") 490), (.str (sn "/claim/cut.py") 491), (.int 72 0), (.int 2 0), (.int 0 0), (.int 0 0), (.int 3 0), (.ref 171), (.bool true), (.int 181 0), (.ref 172), .none, (.ref 173), (.ref 174), (.ref 175), (.int 494 0), (.int 72 0), (.str (sn "/claim/cut.py") 495)]
theorem lk177 (P : Params) : (K P).lookup 177 = some (fo (sn "text") (sn "Names.text") (cl 23 3) .none (.str (sn "gluepage.tokens") 319) (.ref 176)) ∧ (K P).lookup 176 = some (cdo cv177) := ⟨by kernel_rfl, by kernel_rfl⟩
theorem sd177 (B : Bs w h₀) (hfa : facts U [sn "self", sn "number"] F st (cl 23 3)) (hγ : ∀ a ct, lkC a Γ = some ct → Sound prog w h₀ a lev ct) : Sound prog w h₀ 177 (lev + 2) (ctD n Γ U [sn "self", sn "number"] F st (cl 23 3) []) := by
  refine def_sound (dvs := []) B (lk177 _).1 (lk177 _).2 (t := 490) (by rfl) hfa (fun _z _z _z => .nil) (fun s vs X hl => ?_) hγ
  obtain ⟨a, b, rfl⟩ := ln2 (k := 0) hl
  exact BindsTo.of_eq (by rfl)
noncomputable def cv184 : List Value := [(.str (sn "count") 497), (.str (sn "Names.count") 498), (.str (sn "/claim/cut.py") 499), (.int 77 0), (.int 1 0), (.int 0 0), (.int 0 0), (.int 3 0), (.ref 178), (.bool true), (.int 181 0), (.ref 179), .none, (.ref 180), (.ref 181), (.ref 182), (.int 501 0), (.int 77 0), (.str (sn "/claim/cut.py") 502)]
theorem lk184 (P : Params) : (K P).lookup 184 = some (fo (sn "count") (sn "Names.count") (cl 23 4) .none (.str (sn "gluepage.tokens") 319) (.ref 183)) ∧ (K P).lookup 183 = some (cdo cv184) := ⟨by kernel_rfl, by kernel_rfl⟩
theorem sd184 (B : Bs w h₀) (hfa : facts U [sn "self"] F st (cl 23 4)) (hγ : ∀ a ct, lkC a Γ = some ct → Sound prog w h₀ a lev ct) : Sound prog w h₀ 184 (lev + 2) (ctD n Γ U [sn "self"] F st (cl 23 4) []) := by
  refine def_sound (dvs := []) B (lk184 _).1 (lk184 _).2 (t := 498) (by rfl) hfa (fun _z _z _z => .nil) (fun s vs X hl => ?_) hγ
  obtain ⟨a, rfl⟩ := ln1 (k := 0) hl
  exact BindsTo.of_eq (by rfl)
noncomputable def cv205 : List Value := [(.str (sn "plain_categories") 522), (.str (sn "plain_categories") 523), (.str (sn "/claim/cut.py") 524), (.int 83 0), (.int 0 0), (.int 0 0), (.int 0 0), (.int 3 0), (.ref 199), (.bool true), (.int 181 0), (.ref 200), .none, (.ref 201), (.ref 202), (.ref 203), (.int 529 0), (.int 83 0), (.str (sn "/claim/cut.py") 530)]
theorem lk205 (P : Params) : (K P).lookup 205 = some (fo (sn "plain_categories") (sn "plain_categories") (tl 25) .none (.str (sn "gluepage.tokens") 319) (.ref 204)) ∧ (K P).lookup 204 = some (cdo cv205) := ⟨by kernel_rfl, by kernel_rfl⟩
theorem sd205 (B : Bs w h₀) (hfa : facts U [] F st (tl 25)) (hγ : ∀ a ct, lkC a Γ = some ct → Sound prog w h₀ a lev ct) : Sound prog w h₀ 205 (lev + 2) (ctD n Γ U [] F st (tl 25) []) := by
  refine def_sound (dvs := []) B (lk205 _).1 (lk205 _).2 (t := 523) (by rfl) hfa (fun _z _z _z => .nil) (fun s vs X hl => ?_) hγ
  obtain rfl := ln0 hl
  exact BindsTo.of_eq (by rfl)
noncomputable def cv218 : List Value := [(.str (sn "__init__") 544), (.str (sn "CatList.__init__") 545), (.str (sn "/claim/cut.py") 546), (.int 93 0), (.int 2 0), (.int 0 0), (.int 0 0), (.int 3 0), (.ref 214), (.bool true), (.int 181 0), (.ref 215), .none, .none, .none, (.ref 216), (.int 547 0), (.int 93 0), (.str (sn "/claim/cut.py") 548)]
theorem lk218 (P : Params) : (K P).lookup 218 = some (fo (sn "__init__") (sn "CatList.__init__") (cl 26 0) (.ref 213) (.str (sn "gluepage.tokens") 319) (.ref 217)) ∧ (K P).lookup 217 = some (cdo cv218) := ⟨by kernel_rfl, by kernel_rfl⟩
theorem lkT218 (P : Params) : (K P).lookup 213 = some (tupo [.none]) := by kernel_rfl
theorem sd218 (B : Bs w h₀) (hfa : facts U [sn "self", sn "rows"] F st (cl 26 0)) (hγ : ∀ a ct, lkC a Γ = some ct → Sound prog w h₀ a lev ct) : Sound prog w h₀ 218 (lev + 2) (ctD n Γ U [sn "self", sn "rows"] F st (cl 26 0) [.p .none]) := by
  refine def_sound (dvs := [.none]) B (lk218 _).1 (lk218 _).2 (t := 545) (by rfl) hfa (fun _z _z _z => .cons (.p .none) .nil) (fun s vs X hl => ?_) hγ
  obtain ⟨a, rfl⟩ := ln1 (k := 1) hl
  exact BindsTo.of_defaults (o := tupo [.none]) rfl (X _ _ (lkT218 _)) rfl rfl rfl
noncomputable def cv225 : List Value := [(.str (sn "category") 550), (.str (sn "CatList.category") 551), (.str (sn "/claim/cut.py") 552), (.int 101 0), (.int 2 0), (.int 0 0), (.int 0 0), (.int 3 0), (.ref 219), (.bool true), (.int 181 0), (.ref 220), .none, (.ref 221), (.ref 222), (.ref 223), (.int 555 0), (.int 101 0), (.str (sn "/claim/cut.py") 556)]
theorem lk225 (P : Params) : (K P).lookup 225 = some (fo (sn "category") (sn "CatList.category") (cl 26 1) .none (.str (sn "gluepage.tokens") 319) (.ref 224)) ∧ (K P).lookup 224 = some (cdo cv225) := ⟨by kernel_rfl, by kernel_rfl⟩
theorem sd225 (B : Bs w h₀) (hfa : facts U [sn "self", sn "code"] F st (cl 26 1)) (hγ : ∀ a ct, lkC a Γ = some ct → Sound prog w h₀ a lev ct) : Sound prog w h₀ 225 (lev + 2) (ctD n Γ U [sn "self", sn "code"] F st (cl 26 1) []) := by
  refine def_sound (dvs := []) B (lk225 _).1 (lk225 _).2 (t := 551) (by rfl) hfa (fun _z _z _z => .nil) (fun s vs X hl => ?_) hγ
  obtain ⟨a, b, rfl⟩ := ln2 (k := 0) hl
  exact BindsTo.of_eq (by rfl)
noncomputable def cv232 : List Value := [(.str (sn "set") 558), (.str (sn "CatList.set") 559), (.str (sn "/claim/cut.py") 560), (.int 106 0), (.int 3 0), (.int 0 0), (.int 0 0), (.int 3 0), (.ref 226), (.bool true), (.int 181 0), (.ref 227), .none, (.ref 228), (.ref 229), (.ref 230), (.int 564 0), (.int 106 0), (.str (sn "/claim/cut.py") 565)]
theorem lk232 (P : Params) : (K P).lookup 232 = some (fo (sn "set") (sn "CatList.set") (cl 26 2) .none (.str (sn "gluepage.tokens") 319) (.ref 231)) ∧ (K P).lookup 231 = some (cdo cv232) := ⟨by kernel_rfl, by kernel_rfl⟩
theorem sd232 (B : Bs w h₀) (hfa : facts U [sn "self", sn "code", sn "category"] F st (cl 26 2)) (hγ : ∀ a ct, lkC a Γ = some ct → Sound prog w h₀ a lev ct) : Sound prog w h₀ 232 (lev + 2) (ctD n Γ U [sn "self", sn "code", sn "category"] F st (cl 26 2) []) := by
  refine def_sound (dvs := []) B (lk232 _).1 (lk232 _).2 (t := 559) (by rfl) hfa (fun _z _z _z => .nil) (fun s vs X hl => ?_) hγ
  obtain ⟨a, b, c, rfl⟩ := ln3 (k := 0) hl
  exact BindsTo.of_eq (by rfl)
noncomputable def cv247 : List Value := [(.str (sn "is_letter") 576), (.str (sn "is_letter") 577), (.str (sn "/claim/cut.py") 578), (.int 110 0), (.int 2 0), (.int 0 0), (.int 0 0), (.int 3 0), (.ref 241), (.bool true), (.int 181 0), (.ref 242), .none, (.ref 243), (.ref 244), (.ref 245), (.int 581 0), (.int 110 0), (.str (sn "/claim/cut.py") 582)]
theorem lk247 (P : Params) : (K P).lookup 247 = some (fo (sn "is_letter") (sn "is_letter") (tl 27) (.ref 240) (.str (sn "gluepage.tokens") 319) (.ref 246)) ∧ (K P).lookup 246 = some (cdo cv247) := ⟨by kernel_rfl, by kernel_rfl⟩
theorem lkT247 (P : Params) : (K P).lookup 240 = some (tupo [.none]) := by kernel_rfl
theorem sd247 (B : Bs w h₀) (hfa : facts U [sn "code", sn "letters"] F st (tl 27)) (hγ : ∀ a ct, lkC a Γ = some ct → Sound prog w h₀ a lev ct) : Sound prog w h₀ 247 (lev + 2) (ctD n Γ U [sn "code", sn "letters"] F st (tl 27) []) := by
  refine def_sound (dvs := []) B (lk247 _).1 (lk247 _).2 (t := 577) (by rfl) hfa (fun _z _z _z => .nil) (fun s vs X hl => ?_) hγ
  obtain ⟨a, b, rfl⟩ := ln2 (k := 0) hl
  exact BindsTo.of_defaults (o := tupo [.none]) rfl (X _ _ (lkT247 _)) rfl rfl rfl
noncomputable def cv254 : List Value := [(.str (sn "escape_text") 584), (.str (sn "escape_text") 585), (.str (sn "/claim/cut.py") 586), (.int 114 0), (.int 1 0), (.int 0 0), (.int 0 0), (.int 3 0), (.ref 248), (.bool true), (.int 181 0), (.ref 249), .none, (.ref 250), (.ref 251), (.ref 252), (.int 588 0), (.int 114 0), (.str (sn "/claim/cut.py") 589)]
theorem lk254 (P : Params) : (K P).lookup 254 = some (fo (sn "escape_text") (sn "escape_text") (tl 28) .none (.str (sn "gluepage.tokens") 319) (.ref 253)) ∧ (K P).lookup 253 = some (cdo cv254) := ⟨by kernel_rfl, by kernel_rfl⟩
theorem sd254 (B : Bs w h₀) (hfa : facts U [sn "escape"] F st (tl 28)) (hγ : ∀ a ct, lkC a Γ = some ct → Sound prog w h₀ a lev ct) : Sound prog w h₀ 254 (lev + 2) (ctD n Γ U [sn "escape"] F st (tl 28) []) := by
  refine def_sound (dvs := []) B (lk254 _).1 (lk254 _).2 (t := 585) (by rfl) hfa (fun _z _z _z => .nil) (fun s vs X hl => ?_) hγ
  obtain ⟨a, rfl⟩ := ln1 (k := 0) hl
  exact BindsTo.of_eq (by rfl)
noncomputable def cv262 : List Value := [(.str (sn "name_text") 592), (.str (sn "name_text") 593), (.str (sn "/claim/cut.py") 594), (.int 118 0), (.int 2 0), (.int 0 0), (.int 0 0), (.int 3 0), (.ref 256), (.bool true), (.int 181 0), (.ref 257), .none, (.ref 258), (.ref 259), (.ref 260), (.int 598 0), (.int 118 0), (.str (sn "/claim/cut.py") 599)]
theorem lk262 (P : Params) : (K P).lookup 262 = some (fo (sn "name_text") (sn "name_text") (tl 29) (.ref 255) (.str (sn "gluepage.tokens") 319) (.ref 261)) ∧ (K P).lookup 261 = some (cdo cv262) := ⟨by kernel_rfl, by kernel_rfl⟩
theorem lkT262 (P : Params) : (K P).lookup 255 = some (tupo [(.int 92 591)]) := by kernel_rfl
theorem sd262 (B : Bs w h₀) (hfa : facts U [sn "name", sn "escape"] F st (tl 29)) (hγ : ∀ a ct, lkC a Γ = some ct → Sound prog w h₀ a lev ct) : Sound prog w h₀ 262 (lev + 2) (ctD n Γ U [sn "name", sn "escape"] F st (tl 29) []) := by
  refine def_sound (dvs := []) B (lk262 _).1 (lk262 _).2 (t := 593) (by rfl) hfa (fun _z _z _z => .nil) (fun s vs X hl => ?_) hγ
  obtain ⟨a, b, rfl⟩ := ln2 (k := 0) hl
  exact BindsTo.of_defaults (o := tupo [(.int 92 591)]) rfl (X _ _ (lkT262 _)) rfl rfl rfl
noncomputable def cv277 : List Value := [(.str (sn "show_token") 609), (.str (sn "show_token") 610), (.str (sn "/claim/cut.py") 611), (.int 127 0), (.int 4 0), (.int 0 0), (.int 0 0), (.int 3 0), (.ref 271), (.bool true), (.int 181 0), (.ref 272), .none, (.ref 273), (.ref 274), (.ref 275), (.int 619 0), (.int 127 0), (.str (sn "/claim/cut.py") 620)]
theorem lk277 (P : Params) : (K P).lookup 277 = some (fo (sn "show_token") (sn "show_token") (tl 31) (.ref 270) (.str (sn "gluepage.tokens") 319) (.ref 276)) ∧ (K P).lookup 276 = some (cdo cv277) := ⟨by kernel_rfl, by kernel_rfl⟩
theorem lkT277 (P : Params) : (K P).lookup 270 = some (tupo [(.int 92 608), .none]) := by kernel_rfl
theorem sd277 (B : Bs w h₀) (hfa : facts U [sn "token", sn "names", sn "escape", sn "letters"] F st (tl 31)) (hγ : ∀ a ct, lkC a Γ = some ct → Sound prog w h₀ a lev ct) : Sound prog w h₀ 277 (lev + 2) (ctD n Γ U [sn "token", sn "names", sn "escape", sn "letters"] F st (tl 31) []) := by
  refine def_sound (dvs := []) B (lk277 _).1 (lk277 _).2 (t := 610) (by rfl) hfa (fun _z _z _z => .nil) (fun s vs X hl => ?_) hγ
  obtain ⟨a, b, c, d, rfl⟩ := ln4 (k := 0) hl
  exact BindsTo.of_defaults (o := tupo [(.int 92 608), .none]) rfl (X _ _ (lkT277 _)) rfl rfl rfl
noncomputable def cv285 : List Value := [(.str (sn "show_tokens") 623), (.str (sn "show_tokens") 624), (.str (sn "/claim/cut.py") 625), (.int 143 0), (.int 4 0), (.int 0 0), (.int 0 0), (.int 3 0), (.ref 279), (.bool true), (.int 181 0), (.ref 280), .none, (.ref 281), (.ref 282), (.ref 283), (.int 633 0), (.int 143 0), (.str (sn "/claim/cut.py") 634)]
theorem lk285 (P : Params) : (K P).lookup 285 = some (fo (sn "show_tokens") (sn "show_tokens") (tl 32) (.ref 278) (.str (sn "gluepage.tokens") 319) (.ref 284)) ∧ (K P).lookup 284 = some (cdo cv285) := ⟨by kernel_rfl, by kernel_rfl⟩
theorem lkT285 (P : Params) : (K P).lookup 278 = some (tupo [(.int 92 622), .none]) := by kernel_rfl
theorem sd285 (B : Bs w h₀) (hfa : facts U [sn "tokens", sn "names", sn "escape", sn "letters"] F st (tl 32)) (hγ : ∀ a ct, lkC a Γ = some ct → Sound prog w h₀ a lev ct) : Sound prog w h₀ 285 (lev + 2) (ctD n Γ U [sn "tokens", sn "names", sn "escape", sn "letters"] F st (tl 32) []) := by
  refine def_sound (dvs := []) B (lk285 _).1 (lk285 _).2 (t := 624) (by rfl) hfa (fun _z _z _z => .nil) (fun s vs X hl => ?_) hγ
  obtain ⟨a, b, c, d, rfl⟩ := ln4 (k := 0) hl
  exact BindsTo.of_defaults (o := tupo [(.int 92 622), .none]) rfl (X _ _ (lkT285 _)) rfl rfl rfl
noncomputable def cv296 : List Value := [(.str (sn "hex_value") 644), (.str (sn "hex_value") 645), (.str (sn "/claim/cut.py") 646), (.int 153 0), (.int 1 0), (.int 0 0), (.int 0 0), (.int 3 0), (.ref 290), (.bool true), (.int 181 0), (.ref 291), .none, (.ref 292), (.ref 293), (.ref 294), (.int 648 0), (.int 153 0), (.str (sn "/claim/cut.py") 649)]
theorem lk296 (P : Params) : (K P).lookup 296 = some (fo (sn "hex_value") (sn "hex_value") (tl 35) .none (.str (sn "gluepage.lines") 636) (.ref 295)) ∧ (K P).lookup 295 = some (cdo cv296) := ⟨by kernel_rfl, by kernel_rfl⟩
theorem sd296 (B : Bs w h₀) (hfa : facts U [sn "code"] F st (tl 35)) (hγ : ∀ a ct, lkC a Γ = some ct → Sound prog w h₀ a lev ct) : Sound prog w h₀ 296 (lev + 2) (ctD n Γ U [sn "code"] F st (tl 35) []) := by
  refine def_sound (dvs := []) B (lk296 _).1 (lk296 _).2 (t := 645) (by rfl) hfa (fun _z _z _z => .nil) (fun s vs X hl => ?_) hγ
  obtain ⟨a, rfl⟩ := ln1 (k := 0) hl
  exact BindsTo.of_eq (by rfl)
noncomputable def cv303 : List Value := [(.str (sn "written_otherwise") 651), (.str (sn "written_otherwise") 652), (.str (sn "/claim/cut.py") 653), (.int 159 0), (.int 2 0), (.int 0 0), (.int 0 0), (.int 3 0), (.ref 297), (.bool true), (.int 181 0), (.ref 298), .none, (.ref 299), (.ref 300), (.ref 301), (.int 660 0), (.int 159 0), (.str (sn "/claim/cut.py") 661)]
theorem lk303 (P : Params) : (K P).lookup 303 = some (fo (sn "written_otherwise") (sn "written_otherwise") (tl 36) .none (.str (sn "gluepage.lines") 636) (.ref 302)) ∧ (K P).lookup 302 = some (cdo cv303) := ⟨by kernel_rfl, by kernel_rfl⟩
theorem sd303 (B : Bs w h₀) (hfa : facts U [sn "codes", sn "place"] F st (tl 36)) (hγ : ∀ a ct, lkC a Γ = some ct → Sound prog w h₀ a lev ct) : Sound prog w h₀ 303 (lev + 2) (ctD n Γ U [sn "codes", sn "place"] F st (tl 36) []) := by
  refine def_sound (dvs := []) B (lk303 _).1 (lk303 _).2 (t := 652) (by rfl) hfa (fun _z _z _z => .nil) (fun s vs X hl => ?_) hγ
  obtain ⟨a, b, rfl⟩ := ln2 (k := 0) hl
  exact BindsTo.of_eq (by rfl)
noncomputable def cv318 : List Value := [(.str (sn "__init__") 676), (.str (sn "Lines.__init__") 677), (.str (sn "/claim/cut.py") 678), (.int 173 0), (.int 4 0), (.int 0 0), (.int 0 0), (.int 3 0), (.ref 312), (.bool true), (.int 181 0), (.ref 313), .none, (.ref 314), (.ref 315), (.ref 316), (.int 683 0), (.int 173 0), (.str (sn "/claim/cut.py") 684)]
theorem lk318 (P : Params) : (K P).lookup 318 = some (fo (sn "__init__") (sn "Lines.__init__") (cl 37 0) (.ref 311) (.str (sn "gluepage.lines") 636) (.ref 317)) ∧ (K P).lookup 317 = some (cdo cv318) := ⟨by kernel_rfl, by kernel_rfl⟩
theorem lkT318 (P : Params) : (K P).lookup 311 = some (tupo [(.int 13 675)]) := by kernel_rfl
theorem sd318 (B : Bs w h₀) (hfa : facts U [sn "self", sn "text", sn "names", sn "end_line"] F st (cl 37 0)) (hγ : ∀ a ct, lkC a Γ = some ct → Sound prog w h₀ a lev ct) : Sound prog w h₀ 318 (lev + 2) (ctD n Γ U [sn "self", sn "text", sn "names", sn "end_line"] F st (cl 37 0) []) := by
  refine def_sound (dvs := []) B (lk318 _).1 (lk318 _).2 (t := 677) (by rfl) hfa (fun _z _z _z => .nil) (fun s vs X hl => ?_) hγ
  obtain ⟨a, b, c, d, rfl⟩ := ln4 (k := 0) hl
  exact BindsTo.of_defaults (o := tupo [(.int 13 675)]) rfl (X _ _ (lkT318 _)) rfl rfl rfl
noncomputable def cv332 : List Value := [(.str (sn "next") 693), (.str (sn "Lines.next") 694), (.str (sn "/claim/cut.py") 695), (.int 189 0), (.int 2 0), (.int 0 0), (.int 0 0), (.int 3 0), (.ref 326), (.bool true), (.int 181 0), (.ref 327), .none, (.ref 328), (.ref 329), (.ref 330), (.int 700 0), (.int 189 0), (.str (sn "/claim/cut.py") 701)]
theorem lk332 (P : Params) : (K P).lookup 332 = some (fo (sn "next") (sn "Lines.next") (cl 37 2) .none (.str (sn "gluepage.lines") 636) (.ref 331)) ∧ (K P).lookup 331 = some (cdo cv332) := ⟨by kernel_rfl, by kernel_rfl⟩
theorem sd332 (B : Bs w h₀) (hfa : facts U [sn "self", sn "cats"] F st (cl 37 2)) (hγ : ∀ a ct, lkC a Γ = some ct → Sound prog w h₀ a lev ct) : Sound prog w h₀ 332 (lev + 2) (ctD n Γ U [sn "self", sn "cats"] F st (cl 37 2) []) := by
  refine def_sound (dvs := []) B (lk332 _).1 (lk332 _).2 (t := 694) (by rfl) hfa (fun _z _z _z => .nil) (fun s vs X hl => ?_) hγ
  obtain ⟨a, b, rfl⟩ := ln2 (k := 0) hl
  exact BindsTo.of_eq (by rfl)
noncomputable def cv339 : List Value := [(.str (sn "begin_row") 703), (.str (sn "Lines.begin_row") 704), (.str (sn "/claim/cut.py") 705), (.int 198 0), (.int 1 0), (.int 0 0), (.int 0 0), (.int 3 0), (.ref 333), (.bool true), (.int 181 0), (.ref 334), .none, (.ref 335), (.ref 336), (.ref 337), (.int 709 0), (.int 198 0), (.str (sn "/claim/cut.py") 710)]
theorem lk339 (P : Params) : (K P).lookup 339 = some (fo (sn "begin_row") (sn "Lines.begin_row") (cl 37 3) .none (.str (sn "gluepage.lines") 636) (.ref 338)) ∧ (K P).lookup 338 = some (cdo cv339) := ⟨by kernel_rfl, by kernel_rfl⟩
theorem sd339 (B : Bs w h₀) (hfa : facts U [sn "self"] F st (cl 37 3)) (hγ : ∀ a ct, lkC a Γ = some ct → Sound prog w h₀ a lev ct) : Sound prog w h₀ 339 (lev + 2) (ctD n Γ U [sn "self"] F st (cl 37 3) []) := by
  refine def_sound (dvs := []) B (lk339 _).1 (lk339 _).2 (t := 704) (by rfl) hfa (fun _z _z _z => .nil) (fun s vs X hl => ?_) hγ
  obtain ⟨a, rfl⟩ := ln1 (k := 0) hl
  exact BindsTo.of_eq (by rfl)
noncomputable def cv346 : List Value := [(.str (sn "read_token") 712), (.str (sn "Lines.read_token") 713), (.str (sn "/claim/cut.py") 714), (.int 216 0), (.int 2 0), (.int 0 0), (.int 0 0), (.int 3 0), (.ref 340), (.bool true), (.int 181 0), (.ref 341), .none, (.ref 342), (.ref 343), (.ref 344), (.int 718 0), (.int 216 0), (.str (sn "/claim/cut.py") 719)]
theorem lk346 (P : Params) : (K P).lookup 346 = some (fo (sn "read_token") (sn "Lines.read_token") (cl 37 4) .none (.str (sn "gluepage.lines") 636) (.ref 345)) ∧ (K P).lookup 345 = some (cdo cv346) := ⟨by kernel_rfl, by kernel_rfl⟩
theorem sd346 (B : Bs w h₀) (hfa : facts U [sn "self", sn "cats"] F st (cl 37 4)) (hγ : ∀ a ct, lkC a Γ = some ct → Sound prog w h₀ a lev ct) : Sound prog w h₀ 346 (lev + 2) (ctD n Γ U [sn "self", sn "cats"] F st (cl 37 4) []) := by
  refine def_sound (dvs := []) B (lk346 _).1 (lk346 _).2 (t := 713) (by rfl) hfa (fun _z _z _z => .nil) (fun s vs X hl => ?_) hγ
  obtain ⟨a, b, rfl⟩ := ln2 (k := 0) hl
  exact BindsTo.of_eq (by rfl)
noncomputable def cv353 : List Value := [(.str (sn "looked_at") 721), (.str (sn "Lines.looked_at") 722), (.str (sn "/claim/cut.py") 723), (.int 225 0), (.int 3 0), (.int 0 0), (.int 0 0), (.int 3 0), (.ref 347), (.bool true), (.int 181 0), (.ref 348), .none, (.ref 349), (.ref 350), (.ref 351), (.int 730 0), (.int 225 0), (.str (sn "/claim/cut.py") 731)]
theorem lk353 (P : Params) : (K P).lookup 353 = some (fo (sn "looked_at") (sn "Lines.looked_at") (cl 37 5) .none (.str (sn "gluepage.lines") 636) (.ref 352)) ∧ (K P).lookup 352 = some (cdo cv353) := ⟨by kernel_rfl, by kernel_rfl⟩
theorem sd353 (B : Bs w h₀) (hfa : facts U [sn "self", sn "place", sn "cats"] F st (cl 37 5)) (hγ : ∀ a ct, lkC a Γ = some ct → Sound prog w h₀ a lev ct) : Sound prog w h₀ 353 (lev + 2) (ctD n Γ U [sn "self", sn "place", sn "cats"] F st (cl 37 5) []) := by
  refine def_sound (dvs := []) B (lk353 _).1 (lk353 _).2 (t := 722) (by rfl) hfa (fun _z _z _z => .nil) (fun s vs X hl => ?_) hγ
  obtain ⟨a, b, c, rfl⟩ := ln3 (k := 0) hl
  exact BindsTo.of_eq (by rfl)
noncomputable def cv360 : List Value := [(.str (sn "step") 733), (.str (sn "Lines.step") 734), (.str (sn "/claim/cut.py") 735), (.int 236 0), (.int 2 0), (.int 0 0), (.int 0 0), (.int 3 0), (.ref 354), (.bool true), (.int 181 0), (.ref 355), .none, (.ref 356), (.ref 357), (.ref 358), (.int 740 0), (.int 236 0), (.str (sn "/claim/cut.py") 741)]
theorem lk360 (P : Params) : (K P).lookup 360 = some (fo (sn "step") (sn "Lines.step") (cl 37 6) .none (.str (sn "gluepage.lines") 636) (.ref 359)) ∧ (K P).lookup 359 = some (cdo cv360) := ⟨by kernel_rfl, by kernel_rfl⟩
theorem sd360 (B : Bs w h₀) (hfa : facts U [sn "self", sn "cats"] F st (cl 37 6)) (hγ : ∀ a ct, lkC a Γ = some ct → Sound prog w h₀ a lev ct) : Sound prog w h₀ 360 (lev + 2) (ctD n Γ U [sn "self", sn "cats"] F st (cl 37 6) []) := by
  refine def_sound (dvs := []) B (lk360 _).1 (lk360 _).2 (t := 734) (by rfl) hfa (fun _z _z _z => .nil) (fun s vs X hl => ?_) hγ
  obtain ⟨a, b, rfl⟩ := ln2 (k := 0) hl
  exact BindsTo.of_eq (by rfl)
noncomputable def cv367 : List Value := [(.str (sn "end_of_row") 743), (.str (sn "Lines.end_of_row") 744), (.str (sn "/claim/cut.py") 745), (.int 258 0), (.int 1 0), (.int 0 0), (.int 0 0), (.int 3 0), (.ref 361), (.bool true), (.int 181 0), (.ref 362), .none, (.ref 363), (.ref 364), (.ref 365), (.int 747 0), (.int 258 0), (.str (sn "/claim/cut.py") 748)]
theorem lk367 (P : Params) : (K P).lookup 367 = some (fo (sn "end_of_row") (sn "Lines.end_of_row") (cl 37 7) .none (.str (sn "gluepage.lines") 636) (.ref 366)) ∧ (K P).lookup 366 = some (cdo cv367) := ⟨by kernel_rfl, by kernel_rfl⟩
theorem sd367 (B : Bs w h₀) (hfa : facts U [sn "self"] F st (cl 37 7)) (hγ : ∀ a ct, lkC a Γ = some ct → Sound prog w h₀ a lev ct) : Sound prog w h₀ 367 (lev + 2) (ctD n Γ U [sn "self"] F st (cl 37 7) []) := by
  refine def_sound (dvs := []) B (lk367 _).1 (lk367 _).2 (t := 744) (by rfl) hfa (fun _z _z _z => .nil) (fun s vs X hl => ?_) hγ
  obtain ⟨a, rfl⟩ := ln1 (k := 0) hl
  exact BindsTo.of_eq (by rfl)
noncomputable def cv374 : List Value := [(.str (sn "control_word") 750), (.str (sn "Lines.control_word") 751), (.str (sn "/claim/cut.py") 752), (.int 266 0), (.int 2 0), (.int 0 0), (.int 0 0), (.int 3 0), (.ref 368), (.bool true), (.int 181 0), (.ref 369), .none, (.ref 370), (.ref 371), (.ref 372), (.int 762 0), (.int 266 0), (.str (sn "/claim/cut.py") 763)]
theorem lk374 (P : Params) : (K P).lookup 374 = some (fo (sn "control_word") (sn "Lines.control_word") (cl 37 8) .none (.str (sn "gluepage.lines") 636) (.ref 373)) ∧ (K P).lookup 373 = some (cdo cv374) := ⟨by kernel_rfl, by kernel_rfl⟩
theorem sd374 (B : Bs w h₀) (hfa : facts U [sn "self", sn "cats"] F st (cl 37 8)) (hγ : ∀ a ct, lkC a Γ = some ct → Sound prog w h₀ a lev ct) : Sound prog w h₀ 374 (lev + 2) (ctD n Γ U [sn "self", sn "cats"] F st (cl 37 8) []) := by
  refine def_sound (dvs := []) B (lk374 _).1 (lk374 _).2 (t := 751) (by rfl) hfa (fun _z _z _z => .nil) (fun s vs X hl => ?_) hγ
  obtain ⟨a, b, rfl⟩ := ln2 (k := 0) hl
  exact BindsTo.of_eq (by rfl)
noncomputable def cv390 : List Value := [(.str (sn "_law_plain") 810), (.str (sn "_law_plain") 811), (.str (sn "/claim/cut.py") 812), (.int 287 0), (.int 0 0), (.int 0 0), (.int 0 0), (.int 3 0), (.ref 384), (.bool true), (.int 181 0), (.ref 385), .none, (.ref 386), (.ref 387), (.ref 388), (.int 813 0), (.int 287 0), (.str (sn "/claim/cut.py") 814)]
theorem lk390 (P : Params) : (K P).lookup 390 = some (fo (sn "_law_plain") (sn "_law_plain") (tl 41) .none (.str (sn "law_sq0035_01") 782) (.ref 389)) ∧ (K P).lookup 389 = some (cdo cv390) := ⟨by kernel_rfl, by kernel_rfl⟩
theorem sd390 (B : Bs w h₀) (hfa : facts U [] F st (tl 41)) (hγ : ∀ a ct, lkC a Γ = some ct → Sound prog w h₀ a lev ct) : Sound prog w h₀ 390 (lev + 2) (ctD n Γ U [] F st (tl 41) []) := by
  refine def_sound (dvs := []) B (lk390 _).1 (lk390 _).2 (t := 811) (by rfl) hfa (fun _z _z _z => .nil) (fun s vs X hl => ?_) hγ
  obtain rfl := ln0 hl
  exact BindsTo.of_eq (by rfl)
noncomputable def cv395 : List Value := [(.str (sn "_law_box") 818), (.str (sn "_law_box") 819), (.str (sn "/claim/cut.py") 820), (.int 290 0), (.int 2 0), (.int 0 0), (.int 0 0), (.int 3 0), (.ref 391), (.bool true), (.int 181 0), (.ref 392), .none, .none, .none, (.ref 393), (.int 821 0), (.int 290 0), (.str (sn "/claim/cut.py") 822)]
theorem lk395 (P : Params) : (K P).lookup 395 = some (fo (sn "_law_box") (sn "_law_box") (tl 43) .none (.str (sn "law_sq0035_01") 782) (.ref 394)) ∧ (K P).lookup 394 = some (cdo cv395) := ⟨by kernel_rfl, by kernel_rfl⟩
theorem sd395 (B : Bs w h₀) (hfa : facts U [sn "script", sn "k"] F st (tl 43)) (hγ : ∀ a ct, lkC a Γ = some ct → Sound prog w h₀ a lev ct) : Sound prog w h₀ 395 (lev + 2) (ctD n Γ U [sn "script", sn "k"] F st (tl 43) []) := by
  refine def_sound (dvs := []) B (lk395 _).1 (lk395 _).2 (t := 819) (by rfl) hfa (fun _z _z _z => .nil) (fun s vs X hl => ?_) hγ
  obtain ⟨a, b, rfl⟩ := ln2 (k := 0) hl
  exact BindsTo.of_eq (by rfl)
noncomputable def cv402 : List Value := [(.str (sn "_law_take") 824), (.str (sn "_law_take") 825), (.str (sn "/claim/cut.py") 826), (.int 296 0), (.int 2 0), (.int 0 0), (.int 0 0), (.int 3 0), (.ref 396), (.bool true), (.int 181 0), (.ref 397), .none, (.ref 398), (.ref 399), (.ref 400), (.int 831 0), (.int 296 0), (.str (sn "/claim/cut.py") 832)]
theorem lk402 (P : Params) : (K P).lookup 402 = some (fo (sn "_law_take") (sn "_law_take") (tl 44) .none (.str (sn "law_sq0035_01") 782) (.ref 401)) ∧ (K P).lookup 401 = some (cdo cv402) := ⟨by kernel_rfl, by kernel_rfl⟩
theorem sd402 (B : Bs w h₀) (hfa : facts U [sn "box", sn "many"] F st (tl 44)) (hγ : ∀ a ct, lkC a Γ = some ct → Sound prog w h₀ a lev ct) : Sound prog w h₀ 402 (lev + 2) (ctD n Γ U [sn "box", sn "many"] F st (tl 44) []) := by
  refine def_sound (dvs := []) B (lk402 _).1 (lk402 _).2 (t := 825) (by rfl) hfa (fun _z _z _z => .nil) (fun s vs X hl => ?_) hγ
  obtain ⟨a, b, rfl⟩ := ln2 (k := 0) hl
  exact BindsTo.of_eq (by rfl)
noncomputable def cv409 : List Value := [(.str (sn "_law_category") 834), (.str (sn "_law_category") 835), (.str (sn "/claim/cut.py") 836), (.int 304 0), (.int 2 0), (.int 0 0), (.int 0 0), (.int 3 0), (.ref 403), (.bool true), (.int 181 0), (.ref 404), .none, (.ref 405), (.ref 406), (.ref 407), (.int 839 0), (.int 304 0), (.str (sn "/claim/cut.py") 840)]
theorem lk409 (P : Params) : (K P).lookup 409 = some (fo (sn "_law_category") (sn "_law_category") (tl 45) .none (.str (sn "law_sq0035_01") 782) (.ref 408)) ∧ (K P).lookup 408 = some (cdo cv409) := ⟨by kernel_rfl, by kernel_rfl⟩
theorem sd409 (B : Bs w h₀) (hfa : facts U [sn "changes", sn "code"] F st (tl 45)) (hγ : ∀ a ct, lkC a Γ = some ct → Sound prog w h₀ a lev ct) : Sound prog w h₀ 409 (lev + 2) (ctD n Γ U [sn "changes", sn "code"] F st (tl 45) []) := by
  refine def_sound (dvs := []) B (lk409 _).1 (lk409 _).2 (t := 835) (by rfl) hfa (fun _z _z _z => .nil) (fun s vs X hl => ?_) hγ
  obtain ⟨a, b, rfl⟩ := ln2 (k := 0) hl
  exact BindsTo.of_eq (by rfl)
noncomputable def cv414 : List Value := [(.str (sn "_law_drawn") 842), (.str (sn "_law_drawn") 843), (.str (sn "/claim/cut.py") 844), (.int 310 0), (.int 2 0), (.int 0 0), (.int 0 0), (.int 3 0), (.ref 410), (.bool true), (.int 181 0), (.ref 411), .none, .none, .none, (.ref 412), (.int 845 0), (.int 310 0), (.str (sn "/claim/cut.py") 846)]
theorem lk414 (P : Params) : (K P).lookup 414 = some (fo (sn "_law_drawn") (sn "_law_drawn") (tl 46) .none (.str (sn "law_sq0035_01") 782) (.ref 413)) ∧ (K P).lookup 413 = some (cdo cv414) := ⟨by kernel_rfl, by kernel_rfl⟩
theorem sd414 (B : Bs w h₀) (hfa : facts U [sn "box", sn "changes"] F st (tl 46)) (hγ : ∀ a ct, lkC a Γ = some ct → Sound prog w h₀ a lev ct) : Sound prog w h₀ 414 (lev + 2) (ctD n Γ U [sn "box", sn "changes"] F st (tl 46) []) := by
  refine def_sound (dvs := []) B (lk414 _).1 (lk414 _).2 (t := 843) (by rfl) hfa (fun _z _z _z => .nil) (fun s vs X hl => ?_) hγ
  obtain ⟨a, b, rfl⟩ := ln2 (k := 0) hl
  exact BindsTo.of_eq (by rfl)
noncomputable def cv421 : List Value := [(.str (sn "_law_row") 848), (.str (sn "_law_row") 849), (.str (sn "/claim/cut.py") 850), (.int 320 0), (.int 2 0), (.int 0 0), (.int 0 0), (.int 3 0), (.ref 415), (.bool true), (.int 181 0), (.ref 416), .none, (.ref 417), (.ref 418), (.ref 419), (.int 860 0), (.int 320 0), (.str (sn "/claim/cut.py") 861)]
theorem lk421 (P : Params) : (K P).lookup 421 = some (fo (sn "_law_row") (sn "_law_row") (tl 47) .none (.str (sn "law_sq0035_01") 782) (.ref 420)) ∧ (K P).lookup 420 = some (cdo cv421) := ⟨by kernel_rfl, by kernel_rfl⟩
theorem sd421 (B : Bs w h₀) (hfa : facts U [sn "script", sn "changes"] F st (tl 47)) (hγ : ∀ a ct, lkC a Γ = some ct → Sound prog w h₀ a lev ct) : Sound prog w h₀ 421 (lev + 2) (ctD n Γ U [sn "script", sn "changes"] F st (tl 47) []) := by
  refine def_sound (dvs := []) B (lk421 _).1 (lk421 _).2 (t := 849) (by rfl) hfa (fun _z _z _z => .nil) (fun s vs X hl => ?_) hγ
  obtain ⟨a, b, rfl⟩ := ln2 (k := 0) hl
  exact BindsTo.of_eq (by rfl)
noncomputable def cv428 : List Value := [(.str (sn "_law_written") 863), (.str (sn "_law_written") 864), (.str (sn "/claim/cut.py") 865), (.int 337 0), (.int 3 0), (.int 0 0), (.int 0 0), (.int 3 0), (.ref 422), (.bool true), (.int 181 0), (.ref 423), .none, (.ref 424), (.ref 425), (.ref 426), (.int 871 0), (.int 337 0), (.str (sn "/claim/cut.py") 872)]
theorem lk428 (P : Params) : (K P).lookup 428 = some (fo (sn "_law_written") (sn "_law_written") (tl 48) .none (.str (sn "law_sq0035_01") 782) (.ref 427)) ∧ (K P).lookup 427 = some (cdo cv428) := ⟨by kernel_rfl, by kernel_rfl⟩
theorem sd428 (B : Bs w h₀) (hfa : facts U [sn "token", sn "escape", sn "changes"] F st (tl 48)) (hγ : ∀ a ct, lkC a Γ = some ct → Sound prog w h₀ a lev ct) : Sound prog w h₀ 428 (lev + 2) (ctD n Γ U [sn "token", sn "escape", sn "changes"] F st (tl 48) []) := by
  refine def_sound (dvs := []) B (lk428 _).1 (lk428 _).2 (t := 864) (by rfl) hfa (fun _z _z _z => .nil) (fun s vs X hl => ?_) hγ
  obtain ⟨a, b, c, rfl⟩ := ln3 (k := 0) hl
  exact BindsTo.of_eq (by rfl)
noncomputable def cv433 : List Value := [(.str (sn "_law_read") 874), (.str (sn "_law_read") 875), (.str (sn "/claim/cut.py") 876), (.int 343 0), (.int 3 0), (.int 0 0), (.int 0 0), (.int 3 0), (.ref 429), (.bool true), (.int 181 0), (.ref 430), .none, .none, .none, (.ref 431), (.int 877 0), (.int 343 0), (.str (sn "/claim/cut.py") 878)]
theorem lk433 (P : Params) : (K P).lookup 433 = some (fo (sn "_law_read") (sn "_law_read") (tl 49) .none (.str (sn "law_sq0035_01") 782) (.ref 432)) ∧ (K P).lookup 432 = some (cdo cv433) := ⟨by kernel_rfl, by kernel_rfl⟩
theorem sd433 (B : Bs w h₀) (hfa : facts U [sn "text", sn "cats", sn "names"] F st (tl 49)) (hγ : ∀ a ct, lkC a Γ = some ct → Sound prog w h₀ a lev ct) : Sound prog w h₀ 433 (lev + 2) (ctD n Γ U [sn "text", sn "cats", sn "names"] F st (tl 49) []) := by
  refine def_sound (dvs := []) B (lk433 _).1 (lk433 _).2 (t := 875) (by rfl) hfa (fun _z _z _z => .nil) (fun s vs X hl => ?_) hγ
  obtain ⟨a, b, c, rfl⟩ := ln3 (k := 0) hl
  exact BindsTo.of_eq (by rfl)
noncomputable def cv438 : List Value := [(.str (sn "law") 880), (.str (sn "law") 881), (.str (sn "/claim/cut.py") 882), (.int 350 0), (.int 1 0), (.int 0 0), (.int 0 0), (.int 3 0), (.ref 434), (.bool true), (.int 181 0), (.ref 435), .none, .none, .none, (.ref 436), (.int 883 0), (.int 350 0), (.str (sn "/claim/cut.py") 884)]
theorem lk438 (P : Params) : (K P).lookup 438 = some (fo (sn "law") (sn "law") (tl 50) .none (.str (sn "law_sq0035_01") 782) (.ref 437)) ∧ (K P).lookup 437 = some (cdo cv438) := ⟨by kernel_rfl, by kernel_rfl⟩
theorem sd438 (B : Bs w h₀) (hfa : facts U [sn "script"] F st (tl 50)) (hγ : ∀ a ct, lkC a Γ = some ct → Sound prog w h₀ a lev ct) : Sound prog w h₀ 438 (lev + 2) (ctD n Γ U [sn "script"] F st (tl 50) []) := by
  refine def_sound (dvs := []) B (lk438 _).1 (lk438 _).2 (t := 881) (by rfl) hfa (fun _z _z _z => .nil) (fun s vs X hl => ?_) hγ
  obtain ⟨a, rfl⟩ := ln1 (k := 0) hl
  exact BindsTo.of_eq (by rfl)
end
end Mine

namespace Mine
open PySem PySem.W PySem.Calls PyProof.Rows

noncomputable abbrev I (i : Int) : SV := .p (.int i)
noncomputable abbrev B' (b : Bool) : SV := .p (.bool b)
noncomputable abbrev T' (x : Str) : SV := .p (.str x)
section
variable {prog : Program} {w : World} {h₀ : Heap}
theorem noΓ {lev : Nat} : ∀ a ct, lkC a [] = some ct → Sound prog w h₀ a lev ct := fun a ct h => by cases h
theorem consΓ {lev : Nat} {Γ : List (Addr × CT)} {b : Addr} {c : CT} (S : Sound prog w h₀ b lev c) (h : ∀ a ct, lkC a Γ = some ct → Sound prog w h₀ a lev ct) : ∀ a ct, lkC a ((b, c) :: Γ) = some ct → Sound prog w h₀ a lev ct := fun a ct e => by
  rw [lkC_e2] at e
  by_cases q : b = a
  · rw [if_pos q] at e; cases e; exact q ▸ S
  · rw [if_neg q] at e; exact h a ct e
theorem s97 (B : Bs w h₀) : Sound prog w h₀ 97 2 ct97 := (sd97 (lev := 0) B f97 noΓ).imp t97

noncomputable def U104 : List (Str × SV) := [(sn "isinstance", .raw (.builtin "isinstance")), (sn "int", .raw (.type "int")), (sn "bool", .raw (.type "bool"))]
theorem f104 : facts U104 [sn "value"] [] [] (tl 10) := ⟨⟨by kernel_rfl, by kernel_rfl⟩, by kernel_rfl⟩
noncomputable def ct104 : CT := fun args H K => intC args fun v r => r = [] ∧ H = [] ∧ K (I v) []
theorem t104 : ∀ args H K, ct104 args H K → ctD 6 [] U104 [sn "value"] [] [] (tl 10) [] args H K := by
  intro args H K h0
  obtain ⟨v, _, rfl, rfl, rfl, h⟩ := intC_of h0
  clear h0
  (show ?g4; have q_ : type_of% (px (G := ?g4) (by (conv => rhs; whnf); (repeat ((first | (apply sgA; with_reducible assumption) | (apply sgT; kernel_rfl) | apply sgP); (conv => rhs; whnf))); exact sgI)) := trivial; refine segM q_ (by kernel_rfl) ?_; clear q_; (repeat (first | with_reducible refine tt ?_ | refine And.intro (by first | with_reducible assumption | kernel_rfl | omega | (simp only [inR, List.length_cons, List.length_nil]; omega)) ?_)))
  exact h
theorem s104 (B : Bs w h₀) : Sound prog w h₀ 104 2 ct104 := (sd104 (lev := 0) B f104 noΓ).imp t104
noncomputable def U111 : List (Str × SV) := [(sn "check_whole", .raw (.ref 104)), (sn "MAX_NUMBER", I 2147483647)]
theorem f111 : facts U111 [sn "value"] [] [] (tl 11) := ⟨⟨by kernel_rfl, by kernel_rfl⟩, by kernel_rfl⟩
noncomputable def ct111 : CT := fun args H K => intC args fun v r => r = [] ∧ H = [] ∧ (-2147483647 ≤ v ∧ v ≤ 2147483647) ∧ K (I v) []
theorem t111 : ∀ args H K, ct111 args H K → ctD 6 [(104, ct104)] U111 [sn "value"] [] [] (tl 11) [] args H K := by
  intro args H K h0
  obtain ⟨v, _, rfl, rfl, rfl, ⟨h1, h2⟩, h⟩ := intC_of h0
  clear h0
  (show ?g5; have q_ : type_of% (px (G := ?g5) (by (conv => rhs; whnf); (repeat ((first | (apply sgA; with_reducible assumption) | (apply sgT; kernel_rfl) | apply sgP); (conv => rhs; whnf))); exact sgI)) := trivial; refine segM q_ (by kernel_rfl) ?_; clear q_; (repeat (first | with_reducible refine tt ?_ | refine And.intro (by first | with_reducible assumption | kernel_rfl | omega | (simp only [inR, List.length_cons, List.length_nil]; omega)) ?_)))
  refine drec (fun e => ?_) (fun e => absurd h1 (by simpa using e))
  (show ?g6; have q_ : type_of% (px (G := ?g6) (by (conv => rhs; whnf); (repeat ((first | (apply sgA; with_reducible assumption) | (apply sgT; kernel_rfl) | apply sgP); (conv => rhs; whnf))); exact sgI)) := trivial; refine segM q_ (by kernel_rfl) ?_; clear q_; (repeat (first | with_reducible refine tt ?_ | refine And.intro (by first | with_reducible assumption | kernel_rfl | omega | (simp only [inR, List.length_cons, List.length_nil]; omega)) ?_)))
  refine drec (fun e => absurd h2 (by simpa using e)) (fun e => ?_)
  (show ?g7; have q_ : type_of% (px (G := ?g7) (by (conv => rhs; whnf); (repeat ((first | (apply sgA; with_reducible assumption) | (apply sgT; kernel_rfl) | apply sgP); (conv => rhs; whnf))); exact sgI)) := trivial; refine segM q_ (by kernel_rfl) ?_; clear q_; (repeat (first | with_reducible refine tt ?_ | refine And.intro (by first | with_reducible assumption | kernel_rfl | omega | (simp only [inR, List.length_cons, List.length_nil]; omega)) ?_)))
  exact h
theorem s111 (B : Bs w h₀) : Sound prog w h₀ 111 4 ct111 := (sd111 (lev := 2) B f111 (consΓ (s104 B) noΓ)).imp t111
noncomputable def tokOk (c x : Int) : Prop := (c = 0 ∧ 0 ≤ x ∧ x < 1048576) ∨ (c ∈ [1, 2, 3, 4, 6, 7, 8, 10, 11, 12, 13] ∧ 0 ≤ x ∧ x ≤ 255)
noncomputable def U134 : List (Str × SV) := [(sn "isinstance", .raw (.builtin "isinstance")), (sn "tuple", .raw (.type "tuple")), (sn "len", .raw (.builtin "len")), (sn "is_whole", .raw (.ref 97)), (sn "LEAST_CODES", absV (.ref 124)), (sn "GREATEST_CODES", absV (.ref 125))]
theorem f134 : facts U134 [sn "token"] [] [] (tl 21) := ⟨⟨by kernel_rfl, by kernel_rfl⟩, by kernel_rfl⟩
noncomputable def pairC (l : List SV) (k : Int → Int → List SV → Prop) : Prop := match l with
  | [] => False
  | a :: r => (match a with
    | .p x => (match x with
      | .tup ps => intC (ps.map .p) fun c q => intC q fun x q => q = [] ∧ k c x r
      | _ => False)
    | _ => False)
theorem pairC_of {l : List SV} {k : Int → Int → List SV → Prop} (h : pairC l k) : ∃ c x r, l = .p (.tup [.int c, .int x]) :: r ∧ k c x r := by
  cases l with
  | nil => exact (show False from h).elim
  | cons a r => cases a with
    | p x => cases x with
      | tup ps =>
        obtain ⟨c, q, e1, h1⟩ := intC_of (show intC (ps.map .p) _ from h)
        obtain ⟨x, q, rfl, rfl, h2⟩ := intC_of h1
        rcases ps with _ | ⟨p1, _ | ⟨p2, _ | ⟨p3, ps⟩⟩⟩
        · cases e1
        · cases e1
        · cases e1; exact ⟨c, x, r, rfl, h2⟩
        · cases e1
      | _ => exact (show False from h).elim
    | _ => exact (show False from h).elim
noncomputable def strC1 (l : List SV) (k : Str → List SV → Prop) : Prop := match l with
  | [] => False
  | a :: r => (match a with
    | .p x => (match x with
      | .str v => k v r
      | _ => False)
    | _ => False)
theorem strC1_of {l : List SV} {k : Str → List SV → Prop} (h : strC1 l k) : ∃ v r, l = .p (.str v) :: r ∧ k v r := by
  cases l with
  | nil => exact (show False from h).elim
  | cons a r => cases a with
    | p x => cases x with
      | str v => exact ⟨v, r, rfl, h⟩
      | _ => exact (show False from h).elim
    | _ => exact (show False from h).elim
noncomputable def ct134 : CT := fun args H K => pairC args fun c x r => r = [] ∧ H = [] ∧ tokOk c x ∧ K (B' true) []
theorem t134 : ∀ args H K, ct134 args H K → ctD 6 [(97, ct97)] U134 [sn "token"] [] [] (tl 21) [] args H K := by
  intro args H K h0
  obtain ⟨c, x, _, rfl, rfl, rfl, h1, h⟩ := pairC_of h0
  clear h0
  have hc : 0 ≤ c ∧ c ≤ 15 := by
    rcases h1 with ⟨rfl, _⟩ | ⟨h1, _⟩
    · decide
    · exact (show ∀ c ∈ ([1, 2, 3, 4, 6, 7, 8, 10, 11, 12, 13] : List Int), 0 ≤ c ∧ c ≤ 15 by decide) c h1
  obtain ⟨lo, hi, e1, e2, h2⟩ : ∃ lo hi, ixL c (tv124.map absP) = some (.int lo) ∧ ixL c (tv125.map absP) = some (.int hi) ∧ lo ≤ x ∧ x ≤ hi := by
    rcases h1 with ⟨rfl, h1⟩ | ⟨h1, h2⟩
    · exact ⟨0, 1048575, rfl, rfl, by omega⟩
    · simp only [List.mem_cons, List.not_mem_nil, or_false] at h1
      rcases h1 with rfl | rfl | rfl | rfl | rfl | rfl | rfl | rfl | rfl | rfl | rfl <;> exact ⟨0, 255, rfl, rfl, h2⟩
  (show ?g8; have q_ : type_of% (px (G := ?g8) (by (conv => rhs; whnf); (repeat ((first | (apply sgA; with_reducible assumption) | (apply sgT; kernel_rfl) | apply sgP); (conv => rhs; whnf))); exact sgI)) := trivial; refine segM q_ (by kernel_rfl) ?_; clear q_; (repeat (first | with_reducible refine tt ?_ | refine And.intro (by first | with_reducible assumption | kernel_rfl | omega | (simp only [inR, List.length_cons, List.length_nil]; omega)) ?_)))
  refine drec (fun e => absurd e (by simp [hc])) (fun _z => ?_)
  (show ?g9; have q_ : type_of% (px (G := ?g9) (by (conv => rhs; whnf); (repeat ((first | (apply sgA; with_reducible assumption) | (apply sgT; kernel_rfl) | apply sgP); (conv => rhs; whnf))); exact sgI)) := trivial; refine segM q_ (by kernel_rfl) ?_; clear q_; (repeat (first | with_reducible refine tt ?_ | refine And.intro (by first | with_reducible assumption | kernel_rfl | omega | (simp only [inR, List.length_cons, List.length_nil]; omega)) ?_)))
  rw [e1]
  (show ?g10; have q_ : type_of% (px (G := ?g10) (by (conv => rhs; whnf); (repeat ((first | (apply sgA; with_reducible assumption) | (apply sgT; kernel_rfl) | apply sgP); (conv => rhs; whnf))); exact sgI)) := trivial; refine segM q_ (by kernel_rfl) ?_; clear q_; (repeat (first | with_reducible refine tt ?_ | refine And.intro (by first | with_reducible assumption | kernel_rfl | omega | (simp only [inR, List.length_cons, List.length_nil]; omega)) ?_)))
  rw [e2]
  (show ?g11; have q_ : type_of% (px (G := ?g11) (by (conv => rhs; whnf); (repeat ((first | (apply sgA; with_reducible assumption) | (apply sgT; kernel_rfl) | apply sgP); (conv => rhs; whnf))); exact sgI)) := trivial; refine segM q_ (by kernel_rfl) ?_; clear q_; (repeat (first | with_reducible refine tt ?_ | refine And.intro (by first | with_reducible assumption | kernel_rfl | omega | (simp only [inR, List.length_cons, List.length_nil]; omega)) ?_)))
  have : decide (lo ≤ x ∧ x ≤ hi) = true := by simp [h2]
  rw [← this] at h
  exact h
theorem s134 (B : Bs w h₀) : Sound prog w h₀ 134 4 ct134 := (sd134 (lev := 2) B f134 (consΓ (s97 B) noΓ)).imp t134
noncomputable def chS (cs : List Nat) : List PV := cs.map fun c => .str ⟨#[c]⟩
noncomputable def U141 : List (Str × SV) := [(sn "isinstance", .raw (.builtin "isinstance")), (sn "str", .raw (.type "str")), (sn "ord", .raw (.builtin "ord"))]
theorem f141 : facts U141 [sn "text"] [] [sn "mark"] (tl 22) := ⟨⟨by kernel_rfl, by kernel_rfl⟩, by kernel_rfl⟩
noncomputable def okText (x : Str) : Prop := ∀ c ∈ x.cps.toList, c ≤ 255
noncomputable def ct141 : CT := fun args H K => strC1 args fun x r => r = [] ∧ H = [] ∧ okText x ∧ K (.p .none) []
theorem t141 : ∀ args H K, ct141 args H K → ctD 6 [] U141 [sn "text"] [] [sn "mark"] (tl 22) [] args H K := by
  intro args H K h0
  obtain ⟨x, _, rfl, rfl, rfl, h1, h⟩ := strC1_of h0
  clear h0
  (show ?g12; have q_ : type_of% (px (G := ?g12) (by (conv => rhs; whnf); (repeat ((first | (apply sgA; with_reducible assumption) | (apply sgT; kernel_rfl) | apply sgP); (conv => rhs; whnf))); exact sgI)) := trivial; refine segM q_ (by kernel_rfl) ?_; clear q_; (repeat (first | with_reducible refine tt ?_ | refine And.intro (by first | with_reducible assumption | kernel_rfl | omega | (simp only [inR, List.length_cons, List.length_nil]; omega)) ?_)))
  refine ⟨chS x.cps.toList, rfl, ?_⟩
  refine forK_ind (fun l vars H => ∃ cs, l = chS cs ∧ (∀ c ∈ cs, c ≤ 255) ∧ H = [] ∧ vars = [(sn "text", T' x)]) ?_ ?_ _ _ _ ⟨x.cps.toList, rfl, h1, rfl, rfl⟩
  · rintro i r vars H Kt ⟨cs, e1, e2, rfl, rfl⟩ hk
    cases cs with
    | nil => cases e1
    | cons c cs =>
      cases e1
      have hc := e2 c (.head _)
      have hk := hk _ _ ⟨cs, rfl, fun c h => e2 c (.tail _ h), rfl, rfl⟩
      (show ?g13; have q_ : type_of% (px (G := ?g13) (by (conv => rhs; whnf); (repeat ((first | (apply sgA; with_reducible assumption) | (apply sgT; kernel_rfl) | apply sgP); (conv => rhs; whnf))); exact sgI)) := trivial; refine segM q_ (by kernel_rfl) ?_; clear q_; (repeat (first | with_reducible refine tt ?_ | refine And.intro (by first | with_reducible assumption | kernel_rfl | omega | (simp only [inR, List.length_cons, List.length_nil]; omega)) ?_)))
      refine drec (fun e => absurd e (by simp; omega)) (fun _z => ?_)
      (show ?g14; have q_ : type_of% (px (G := ?g14) (by (conv => rhs; whnf); (repeat ((first | (apply sgA; with_reducible assumption) | (apply sgT; kernel_rfl) | apply sgP); (conv => rhs; whnf))); exact sgI)) := trivial; refine segM q_ (by kernel_rfl) ?_; clear q_; (repeat (first | with_reducible refine tt ?_ | refine And.intro (by first | with_reducible assumption | kernel_rfl | omega | (simp only [inR, List.length_cons, List.length_nil]; omega)) ?_)))
      exact Eq.mp (by kernel_rfl) hk
  · rintro vars H ⟨cs, e1, e2, rfl, rfl⟩
    (show ?g15; have q_ : type_of% (px (G := ?g15) (by (conv => rhs; whnf); (repeat ((first | (apply sgA; with_reducible assumption) | (apply sgT; kernel_rfl) | apply sgP); (conv => rhs; whnf))); exact sgI)) := trivial; refine segM q_ (by kernel_rfl) ?_; clear q_; (repeat (first | with_reducible refine tt ?_ | refine And.intro (by first | with_reducible assumption | kernel_rfl | omega | (simp only [inR, List.length_cons, List.length_nil]; omega)) ?_)))
    exact Eq.mp (by kernel_rfl) h
theorem s141 (B : Bs w h₀) : Sound prog w h₀ 141 2 ct141 := (sd141 (lev := 0) B f141 noΓ).imp t141
end

noncomputable def numsFrom (k : Int) : List Str → List (Str × Int)
  | [] => []
  | x :: r => (x, k) :: numsFrom (k + 1) r
theorem numsFrom_e {k : Int} {x : Str} {r : List Str} : numsFrom k (x :: r) = (x, k) :: numsFrom (k + 1) r := rfl
noncomputable def strPV : List Str → List PV
  | [] => []
  | x :: r => .str x :: strPV r
noncomputable def at? (t : Str) : List Str → Option Nat
  | [] => none
  | x :: r => if x = t then some 0 else (at? t r).map (· + 1)
theorem at_e {t x : Str} {r : List Str} : at? t (x :: r) = if x = t then some 0 else (at? t r).map (· + 1) := rfl
theorem getK_nums {t : Str} : ∀ {l : List Str} {k : Int}, getK t (numsFrom k l) = (at? t l).map fun i => k + i
  | [], _ => rfl
  | x :: r, k => by
    rw [numsFrom_e, getK_e2, at_e]
    by_cases q : x = t
    · rw [if_pos q, if_pos q]; simp
    · rw [if_neg q, if_neg q, getK_nums]
      cases at? t r with
      | none => rfl
      | some i => simp; omega
theorem setK_nums {t : Str} : ∀ {l : List Str} {k : Int}, at? t l = none → setK t (k + l.length) (numsFrom k l) = numsFrom k (l ++ [t])
  | [], k, _ => by rw [show k + ((([] : List Str).length : Nat) : Int) = k by simp]; rfl
  | x :: r, k, h => by
    rw [at_e] at h
    by_cases q : x = t
    · rw [if_pos q] at h; cases h
    · rw [if_neg q] at h
      have h := Option.map_eq_none_iff.mp h
      simp only [numsFrom_e, List.cons_append, setK_e2, if_neg q, List.length_cons]
      have := setK_nums (l := r) (k := k + 1) h
      rw [show (k + ((r.length + 1 : Nat) : Int)) = k + 1 + (r.length : Int) by push_cast; omega, this]
theorem at_lt {t : Str} : ∀ {l : List Str} {i : Nat}, at? t l = some i → i < l.length
  | [], _, h => by cases h
  | x :: r, i, h => by
    rw [at_e] at h
    by_cases q : x = t
    · rw [if_pos q] at h; cases h; simp
    · rw [if_neg q] at h
      obtain ⟨j, h1, rfl⟩ := Option.map_eq_some_iff.mp h
      have := at_lt h1
      simp; omega
theorem at_get {t : Str} : ∀ {l : List Str} {i : Nat}, at? t l = some i → l[i]? = some t
  | [], _, h => by cases h
  | x :: r, i, h => by
    rw [at_e] at h
    by_cases q : x = t
    · rw [if_pos q] at h; cases h; simp [q]
    · rw [if_neg q] at h
      obtain ⟨j, h1, rfl⟩ := Option.map_eq_some_iff.mp h
      simpa using at_get h1
theorem strPV_len : ∀ l : List Str, (strPV l).length = l.length
  | [] => rfl
  | _ :: r => by simp [strPV, strPV_len r]
theorem strPV_app : ∀ (l : List Str) (x : Str), strPV l ++ [.str x] = strPV (l ++ [x])
  | [], _ => rfl
  | _ :: r, x => by simp [strPV, strPV_app r]
theorem strPV_get : ∀ {l : List Str} {i : Nat} {x : Str}, l[i]? = some x → (strPV l)[i]? = some (.str x)
  | [], _, _, h => by simp at h
  | y :: r, 0, x, h => by simp at h; simp [strPV, h]
  | y :: r, i + 1, x, h => by simpa [strPV] using strPV_get (l := r) (by simpa using h)
noncomputable def nsN (nu te : Nat) : AO := .ns [(sn "most", I 1048576), (sn "numbers", .ref nu), (sn "texts", .ref te)]
noncomputable def NH (l : List Str) : AH := [.inst 187 1, nsN 2 3, .sdict (numsFrom 0 l), .list (strPV l)]
noncomputable def fnd (t : Str) (l : List Str) : Int := ((at? t l).map fun i => (i : Int)).getD (-1)
section
variable {prog : Program} {w : World} {h₀ : Heap}
noncomputable def U163 : List (Str × SV) := [(sn "check_text", .raw (.ref 141))]
theorem f163 : facts U163 [sn "self", sn "text"] [] [] (cl 23 1) := ⟨⟨by kernel_rfl, by kernel_rfl⟩, by kernel_rfl⟩
noncomputable def ct163 : CT := fun args H K => ∃ l t, args = [.ref 0, T' t] ∧ H = NH l ∧ okText t ∧ K (I (fnd t l)) (NH l)
theorem t163 : ∀ args H K, ct163 args H K → ctD 6 [(141, ct141)] U163 [sn "self", sn "text"] [] [] (cl 23 1) [] args H K := by
  rintro args H K ⟨l, t, rfl, rfl, h1, h⟩
  (show ?g16; have q_ : type_of% (px (G := ?g16) (by (conv => rhs; whnf); (repeat ((first | (apply sgA; with_reducible assumption) | (apply sgT; kernel_rfl) | apply sgP); (conv => rhs; whnf))); exact sgI)) := trivial; refine segM q_ (by kernel_rfl) ?_; clear q_; (repeat (first | with_reducible refine tt ?_ | refine And.intro (by first | with_reducible assumption | kernel_rfl | omega | (simp only [inR, List.length_cons, List.length_nil]; omega)) ?_)))
  have : ((getK t (numsFrom 0 l)).getD (-1)) = fnd t l := by rw [getK_nums]; unfold fnd; simp
  rw [← this] at h
  exact Eq.mp (by kernel_rfl) h
theorem s163 (B : Bs w h₀) : Sound prog w h₀ 163 4 ct163 := (sd163 (lev := 2) B f163 (consΓ (s141 B) noΓ)).imp t163
noncomputable def numTo (t : Str) (l : List Str) : Int := ((at? t l).map fun i => (i : Int)).getD l.length
noncomputable def numL (t : Str) (l : List Str) : List Str := if (at? t l).isSome then l else l ++ [t]
noncomputable def U170 : List (Str × SV) := [(sn "len", .raw (.builtin "len"))]
theorem f170 : facts U170 [sn "self", sn "text"] [] [sn "found"] (cl 23 2) := ⟨⟨by kernel_rfl, by kernel_rfl⟩, by kernel_rfl⟩
noncomputable def ct170 : CT := fun args H K => ∃ l t, args = [.ref 0, T' t] ∧ H = NH l ∧ okText t ∧ l.length < 1000 ∧ K (I (numTo t l)) (NH (numL t l))
theorem t170 : ∀ args H K, ct170 args H K → ctD 9 [(163, ct163)] U170 [sn "self", sn "text"] [] [sn "found"] (cl 23 2) [] args H K := by
  rintro args H K ⟨l, t, rfl, rfl, h1, hl, h⟩
  (show ?g17; have q_ : type_of% (px (G := ?g17) (by (conv => rhs; whnf); (repeat ((first | (apply sgA; with_reducible assumption) | (apply sgT; kernel_rfl) | apply sgP); (conv => rhs; whnf))); exact sgI)) := trivial; refine segM q_ (by kernel_rfl) ?_; clear q_; (repeat (first | with_reducible refine tt ?_ | refine And.intro (by first | with_reducible assumption | kernel_rfl | omega | (simp only [inR, List.length_cons, List.length_nil]; omega)) ?_)))
  refine ⟨l, t, rfl, rfl, h1, ?_⟩
  (show ?g18; have q_ : type_of% (px (G := ?g18) (by (conv => rhs; whnf); (repeat ((first | (apply sgA; with_reducible assumption) | (apply sgT; kernel_rfl) | apply sgP); (conv => rhs; whnf))); exact sgI)) := trivial; refine segM q_ (by kernel_rfl) ?_; clear q_; (repeat (first | with_reducible refine tt ?_ | refine And.intro (by first | with_reducible assumption | kernel_rfl | omega | (simp only [inR, List.length_cons, List.length_nil]; omega)) ?_)))
  refine drec (fun e => ?_) (fun e => ?_)
  · (show ?g19; have q_ : type_of% (px (G := ?g19) (by (conv => rhs; whnf); (repeat ((first | (apply sgA; with_reducible assumption) | (apply sgT; kernel_rfl) | apply sgP); (conv => rhs; whnf))); exact sgI)) := trivial; refine segM q_ (by kernel_rfl) ?_; clear q_; (repeat (first | with_reducible refine tt ?_ | refine And.intro (by first | with_reducible assumption | kernel_rfl | omega | (simp only [inR, List.length_cons, List.length_nil]; omega)) ?_)))
    have e : 0 ≤ fnd t l := by simpa using e
    unfold fnd at e
    cases q : at? t l with
    | none => rw [q] at e; simp at e
    | some i =>
      have e1 : numTo t l = fnd t l := by simp [numTo, fnd, q]
      have e2 : numL t l = l := by simp [numL, q]
      rw [e1, e2] at h
      exact Eq.mp (by kernel_rfl) h
  · (show ?g20; have q_ : type_of% (px (G := ?g20) (by (conv => rhs; whnf); (repeat ((first | (apply sgA; with_reducible assumption) | (apply sgT; kernel_rfl) | apply sgP); (conv => rhs; whnf))); exact sgI)) := trivial; refine segM q_ (by kernel_rfl) ?_; clear q_; (repeat (first | with_reducible refine tt ?_ | refine And.intro (by first | with_reducible assumption | kernel_rfl | omega | (simp only [inR, List.length_cons, List.length_nil]; omega)) ?_)))
    have e : ¬ 0 ≤ fnd t l := by simpa using e
    have q : at? t l = none := by
      cases q : at? t l with
      | none => rfl
      | some i => exfalso; apply e; simp [fnd, q]
    refine ⟨by rw [strPV_len]; omega, ?_⟩
    (show ?g21; have q_ : type_of% (px (G := ?g21) (by (conv => rhs; whnf); (repeat ((first | (apply sgA; with_reducible assumption) | (apply sgT; kernel_rfl) | apply sgP); (conv => rhs; whnf))); exact sgI)) := trivial; refine segM q_ (by kernel_rfl) ?_; clear q_; (repeat (first | with_reducible refine tt ?_ | refine And.intro (by first | with_reducible assumption | kernel_rfl | omega | (simp only [inR, List.length_cons, List.length_nil]; omega)) ?_)))
    refine drec (fun e => absurd e (by simp [strPV_len]; omega)) (fun _z => ?_)
    (show ?g22; have q_ : type_of% (px (G := ?g22) (by (conv => rhs; whnf); (repeat ((first | (apply sgA; with_reducible assumption) | (apply sgT; kernel_rfl) | apply sgP); (conv => rhs; whnf))); exact sgI)) := trivial; refine segM q_ (by kernel_rfl) ?_; clear q_; (repeat (first | with_reducible refine tt ?_ | refine And.intro (by first | with_reducible assumption | kernel_rfl | omega | (simp only [inR, List.length_cons, List.length_nil]; omega)) ?_)))
    have hn : (numsFrom 0 l).length = l.length := by
      have : ∀ (l : List Str) k, (numsFrom k l).length = l.length := by
        intro l
        induction l with
        | nil => intro k; rfl
        | cons x r ih => intro k; simp [numsFrom, ih]
      exact this l 0
    refine ⟨by rw [hn]; exact Nat.le_trans (Nat.le_of_lt hl) (by decide), ?_⟩
    (show ?g23; have q_ : type_of% (px (G := ?g23) (by (conv => rhs; whnf); (repeat ((first | (apply sgA; with_reducible assumption) | (apply sgT; kernel_rfl) | apply sgP); (conv => rhs; whnf))); exact sgI)) := trivial; refine segM q_ (by kernel_rfl) ?_; clear q_; (repeat (first | with_reducible refine tt ?_ | refine And.intro (by first | with_reducible assumption | kernel_rfl | omega | (simp only [inR, List.length_cons, List.length_nil]; omega)) ?_)))
    refine ⟨by rw [strPV_len]; exact Nat.le_trans (Nat.le_of_lt hl) (by decide), ?_⟩
    (show ?g24; have q_ : type_of% (px (G := ?g24) (by (conv => rhs; whnf); (repeat ((first | (apply sgA; with_reducible assumption) | (apply sgT; kernel_rfl) | apply sgP); (conv => rhs; whnf))); exact sgI)) := trivial; refine segM q_ (by kernel_rfl) ?_; clear q_; (repeat (first | with_reducible refine tt ?_ | refine And.intro (by first | with_reducible assumption | kernel_rfl | omega | (simp only [inR, List.length_cons, List.length_nil]; omega)) ?_)))
    have e1 : numTo t l = (((strPV l).length : Nat) : Int) := by simp [numTo, q, strPV_len]
    have e2 : numL t l = l ++ [t] := by simp [numL, q]
    have e3 : numsFrom 0 (l ++ [t]) = setK t (((strPV l).length : Nat) : Int) (numsFrom 0 l) := by
      rw [strPV_len, ← setK_nums q, Int.zero_add]
    rw [e1, e2] at h
    unfold NH at h
    rw [e3, ← strPV_app] at h
    exact Eq.mp (by kernel_rfl) h
theorem s170 (B : Bs w h₀) : Sound prog w h₀ 170 6 ct170 := (sd170 (lev := 4) B f170 (consΓ (s163 B) noΓ)).imp t170
noncomputable def U177 : List (Str × SV) := [(sn "is_whole", .raw (.ref 97)), (sn "len", .raw (.builtin "len"))]
theorem f177 : facts U177 [sn "self", sn "number"] [] [] (cl 23 3) := ⟨⟨by kernel_rfl, by kernel_rfl⟩, by kernel_rfl⟩
noncomputable def ct177 : CT := fun args H K => ∃ l n t, args = [.ref 0, I n] ∧ H = NH l ∧ l.length < 1000 ∧ 0 ≤ n ∧ l[n.toNat]? = some t ∧ K (T' t) (NH l)
theorem t177 : ∀ args H K, ct177 args H K → ctD 6 [(97, ct97)] U177 [sn "self", sn "number"] [] [] (cl 23 3) [] args H K := by
  rintro args H K ⟨l, n, t, rfl, rfl, hl, h0, ht, h⟩
  have hlt : n.toNat < l.length := (List.getElem?_eq_some_iff.mp ht).1
  (show ?g25; have q_ : type_of% (px (G := ?g25) (by (conv => rhs; whnf); (repeat ((first | (apply sgA; with_reducible assumption) | (apply sgT; kernel_rfl) | apply sgP); (conv => rhs; whnf))); exact sgI)) := trivial; refine segM q_ (by kernel_rfl) ?_; clear q_; (repeat (first | with_reducible refine tt ?_ | refine And.intro (by first | with_reducible assumption | kernel_rfl | omega | (simp only [inR, List.length_cons, List.length_nil]; omega)) ?_)))
  refine ⟨by rw [strPV_len]; omega, ?_⟩
  (show ?g26; have q_ : type_of% (px (G := ?g26) (by (conv => rhs; whnf); (repeat ((first | (apply sgA; with_reducible assumption) | (apply sgT; kernel_rfl) | apply sgP); (conv => rhs; whnf))); exact sgI)) := trivial; refine segM q_ (by kernel_rfl) ?_; clear q_; (repeat (first | with_reducible refine tt ?_ | refine And.intro (by first | with_reducible assumption | kernel_rfl | omega | (simp only [inR, List.length_cons, List.length_nil]; omega)) ?_)))
  refine drec (fun e => absurd e (by simp [strPV_len]; omega)) (fun _z => ?_)
  (show ?g27; have q_ : type_of% (px (G := ?g27) (by (conv => rhs; whnf); (repeat ((first | (apply sgA; with_reducible assumption) | (apply sgT; kernel_rfl) | apply sgP); (conv => rhs; whnf))); exact sgI)) := trivial; refine segM q_ (by kernel_rfl) ?_; clear q_; (repeat (first | with_reducible refine tt ?_ | refine And.intro (by first | with_reducible assumption | kernel_rfl | omega | (simp only [inR, List.length_cons, List.length_nil]; omega)) ?_)))
  have e : ixL n (strPV l) = some (.str t) := by
    unfold ixL seqIndex?
    rw [strPV_len]
    have h1 : ¬ n < 0 := by omega
    simp only [h1, if_false]
    rw [if_pos (by simp; omega)]
    exact strPV_get ht
  rw [e]
  (show ?g28; have q_ : type_of% (px (G := ?g28) (by (conv => rhs; whnf); (repeat ((first | (apply sgA; with_reducible assumption) | (apply sgT; kernel_rfl) | apply sgP); (conv => rhs; whnf))); exact sgI)) := trivial; refine segM q_ (by kernel_rfl) ?_; clear q_; (repeat (first | with_reducible refine tt ?_ | refine And.intro (by first | with_reducible assumption | kernel_rfl | omega | (simp only [inR, List.length_cons, List.length_nil]; omega)) ?_)))
  exact Eq.mp (by kernel_rfl) h
theorem s177 (B : Bs w h₀) : Sound prog w h₀ 177 4 ct177 := (sd177 (lev := 2) B f177 (consΓ (s97 B) noΓ)).imp t177
noncomputable def U184 : List (Str × SV) := [(sn "len", .raw (.builtin "len"))]
theorem f184 : facts U184 [sn "self"] [] [] (cl 23 4) := ⟨⟨by kernel_rfl, by kernel_rfl⟩, by kernel_rfl⟩
noncomputable def ct184 : CT := fun args H K => ∃ l : List Str, args = [.ref 0] ∧ H = NH l ∧ l.length < 1000 ∧ K (I l.length) (NH l)
theorem t184 : ∀ args H K, ct184 args H K → ctD 6 [] U184 [sn "self"] [] [] (cl 23 4) [] args H K := by
  rintro args H K ⟨l, rfl, rfl, hl, h⟩
  (show ?g29; have q_ : type_of% (px (G := ?g29) (by (conv => rhs; whnf); (repeat ((first | (apply sgA; with_reducible assumption) | (apply sgT; kernel_rfl) | apply sgP); (conv => rhs; whnf))); exact sgI)) := trivial; refine segM q_ (by kernel_rfl) ?_; clear q_; (repeat (first | with_reducible refine tt ?_ | refine And.intro (by first | with_reducible assumption | kernel_rfl | omega | (simp only [inR, List.length_cons, List.length_nil]; omega)) ?_)))
  refine ⟨by rw [strPV_len]; omega, ?_⟩
  (show ?g30; have q_ : type_of% (px (G := ?g30) (by (conv => rhs; whnf); (repeat ((first | (apply sgA; with_reducible assumption) | (apply sgT; kernel_rfl) | apply sgP); (conv => rhs; whnf))); exact sgI)) := trivial; refine segM q_ (by kernel_rfl) ?_; clear q_; (repeat (first | with_reducible refine tt ?_ | refine And.intro (by first | with_reducible assumption | kernel_rfl | omega | (simp only [inR, List.length_cons, List.length_nil]; omega)) ?_)))
  rw [← strPV_len] at h
  exact Eq.mp (by kernel_rfl) h
theorem s184 (B : Bs w h₀) : Sound prog w h₀ 184 2 ct184 := (sd184 (lev := 0) B f184 noΓ).imp t184
noncomputable def U156 : List (Str × SV) := [(sn "is_whole", .raw (.ref 97)), (sn "MOST_NAMES", I 1048576)]
theorem f156 : facts U156 [sn "self", sn "most"] [] [] (cl 23 0) := ⟨⟨by kernel_rfl, by kernel_rfl⟩, by kernel_rfl⟩
noncomputable def ct156 : CT := fun args H K => args = [.ref 1] ∧ H = [.ns [], .inst 187 0] ∧ K (.p .none) [nsN 2 3, .inst 187 0, .sdict [], .list []]
theorem t156 : ∀ args H K, ct156 args H K → ctD 8 [(97, ct97)] U156 [sn "self", sn "most"] [] [] (cl 23 0) [.p (.int 1048576)] args H K := by
  rintro args H K ⟨rfl, rfl, h⟩
  (show ?g31; have q_ : type_of% (px (G := ?g31) (by (conv => rhs; whnf); (repeat ((first | (apply sgA; with_reducible assumption) | (apply sgT; kernel_rfl) | apply sgP); (conv => rhs; whnf))); exact sgI)) := trivial; refine segM q_ (by kernel_rfl) ?_; clear q_; (repeat (first | with_reducible refine tt ?_ | refine And.intro (by first | with_reducible assumption | kernel_rfl | omega | (simp only [inR, List.length_cons, List.length_nil]; omega)) ?_)))
  exact Eq.mp (by kernel_rfl) h
theorem s156 (B : Bs w h₀) : Sound prog w h₀ 156 4 ct156 := (sd156 (lev := 2) B f156 (consΓ (s97 B) noΓ)).imp t156
noncomputable def ct187 : CT := fun args H K => args = [] ∧ H = [] ∧ K (.ref 1) [nsN 2 3, .inst 187 0, .sdict [], .list []]
theorem lk187 (P : Params) : (K P).lookup 187 = some (clo (sn "Names") 187 186 #[none, none, some (.str (sn "Names") 452), some (.str (sn "Names") 460), some (.builtin "object.__new__"), some (.bool true)]) := by kernel_rfl
theorem cf187 (P : Params) : (specialIn (K P) (.ref 187) "__call__", makesIn (K P) 187, findIn (K P) (.ref 187) "__init__", typeIn (K P) (.ref 156)) = (some (some (.builtin "type.__call__")), true, some (some (.ref 156)), some (.type "function")) := by kernel_rfl
theorem s187 (B : Bs w h₀) : Sound prog w h₀ 187 8 ct187 := by
  have c := cf187 w.params
  simp only [Prod.mk.injEq] at c
  refine (cls_sound B (lk187 _) c.1 c.2.1 c.2.2.1 c.2.2.2 (s156 B)).imp ?_
  rintro args H K ⟨rfl, rfl, h⟩
  exact ⟨rfl, rfl, rfl, h⟩
end

noncomputable def row0 : List Int := List.replicate 256 12
noncomputable def let1 (L : List Int) (i : Int) : List Int := (L.set (65 + i).toNat 11).set (97 + i).toNat 11
noncomputable def row1 : List Int := ((List.range 26).map fun (i : Nat) => (0 : Int) + i).foldl let1 row0
noncomputable def spe1 (L : List Int) (e : Int × Int) : List Int := L.set e.1.toNat e.2
noncomputable def plainRow : List Int := spL.foldl spe1 row1
theorem intPV_set (L : List Int) (i : Nat) (v : Int) : (intPV L).set i (.int v) = intPV (L.set i v) := by unfold intPV; rw [List.map_set]
theorem intPV_len (L : List Int) : (intPV L).length = L.length := by simp [intPV]
noncomputable def U205 : List (Str × SV) := [(sn "OTHER", I 12), (sn "range", .raw (.type "range")), (sn "LETTER", I 11), (sn "SPECIAL_CATEGORIES", .raw (.ref 127))]
theorem f205 : facts U205 [] [] [sn "found", sn "place", sn "code", sn "category"] (tl 25) := ⟨⟨by kernel_rfl, by kernel_rfl⟩, by kernel_rfl⟩
noncomputable def ct205 : CT := fun args H K => args = [] ∧ H = [] ∧ K (.ref 0) [.list (intPV plainRow)]
theorem t205 : ∀ args H K, ct205 args H K → ctD 9 [] U205 [] [] [sn "found", sn "place", sn "code", sn "category"] (tl 25) [] args H K := by
  rintro args H K ⟨rfl, rfl, h⟩
  (show ?g32; have q_ : type_of% (px (G := ?g32) (by (conv => rhs; whnf); (repeat ((first | (apply sgA; with_reducible assumption) | (apply sgT; kernel_rfl) | apply sgP); (conv => rhs; whnf))); exact sgI)) := trivial; refine segM q_ (by kernel_rfl) ?_; clear q_; (repeat (first | with_reducible refine tt ?_ | refine And.intro (by first | with_reducible assumption | kernel_rfl | omega | (simp only [inR, List.length_cons, List.length_nil]; omega)) ?_)))
  refine ⟨List.cons_ne_nil _ _, ?_⟩
  (show ?g33; have q_ : type_of% (px (G := ?g33) (by (conv => rhs; whnf); (repeat ((first | (apply sgA; with_reducible assumption) | (apply sgT; kernel_rfl) | apply sgP); (conv => rhs; whnf))); exact sgI)) := trivial; refine segM q_ (by kernel_rfl) ?_; clear q_; (repeat (first | with_reducible refine tt ?_ | refine And.intro (by first | with_reducible assumption | kernel_rfl | omega | (simp only [inR, List.length_cons, List.length_nil]; omega)) ?_)))
  refine ⟨intPV ((List.range 26).map fun (i : Nat) => (0 : Int) + i), by kernel_rfl, ?_⟩
  refine forK_ind (fun l vars H => ∃ ks L, l = intPV ks ∧ (∀ k ∈ ks, 0 ≤ k ∧ k < 26) ∧ L.length = 256 ∧ ks.foldl let1 L = row1 ∧ H = [.list [.int 12], .list (intPV L)] ∧ vars = [(sn "found", .ref 1)]) ?_ ?_ _ _ _
    ⟨(List.range 26).map fun (i : Nat) => (0 : Int) + i, row0, rfl, by decide, by decide, rfl, by kernel_rfl, by kernel_rfl⟩
  · rintro i r vars H Kt ⟨ks, L, e1, e2, e3, e4, rfl, rfl⟩ hk
    cases ks with
    | nil => cases e1
    | cons k ks =>
      cases e1
      have hc := e2 k (.head _)
      have hk := hk _ _ ⟨ks, let1 L k, rfl, fun c h => e2 c (.tail _ h), by simp [let1, e3], e4, rfl, rfl⟩
      rw [show intPV (let1 L k) = ((intPV L).set (65 + k).toNat (.int 11)).set (97 + k).toNat (.int 11) by rw [intPV_set, intPV_set]; rfl] at hk
      (show ?g34; have q_ : type_of% (px (G := ?g34) (by (conv => rhs; whnf); (repeat ((first | (apply sgA; with_reducible assumption) | (apply sgT; kernel_rfl) | apply sgP); (conv => rhs; whnf))); exact sgI)) := trivial; refine segM q_ (by kernel_rfl) ?_; clear q_; (repeat (first | with_reducible refine tt ?_ | refine And.intro (by first | with_reducible assumption | kernel_rfl | omega | (simp only [inR, List.length_cons, List.length_nil]; omega)) ?_)))
      refine ⟨by rw [intPV_len]; omega, ?_⟩
      (show ?g35; have q_ : type_of% (px (G := ?g35) (by (conv => rhs; whnf); (repeat ((first | (apply sgA; with_reducible assumption) | (apply sgT; kernel_rfl) | apply sgP); (conv => rhs; whnf))); exact sgI)) := trivial; refine segM q_ (by kernel_rfl) ?_; clear q_; (repeat (first | with_reducible refine tt ?_ | refine And.intro (by first | with_reducible assumption | kernel_rfl | omega | (simp only [inR, List.length_cons, List.length_nil]; omega)) ?_)))
      refine ⟨by rw [List.length_set, intPV_len]; omega, ?_⟩
      (show ?g36; have q_ : type_of% (px (G := ?g36) (by (conv => rhs; whnf); (repeat ((first | (apply sgA; with_reducible assumption) | (apply sgT; kernel_rfl) | apply sgP); (conv => rhs; whnf))); exact sgI)) := trivial; refine segM q_ (by kernel_rfl) ?_; clear q_; (repeat (first | with_reducible refine tt ?_ | refine And.intro (by first | with_reducible assumption | kernel_rfl | omega | (simp only [inR, List.length_cons, List.length_nil]; omega)) ?_)))
      exact Eq.mp (by kernel_rfl) hk
  · rintro vars H ⟨ks, L, e1, e2, e3, e4, rfl, rfl⟩
    cases ks with
    | cons => cases e1
    | nil =>
      have e4 : L = row1 := e4
      subst e4
      (show ?g37; have q_ : type_of% (px (G := ?g37) (by (conv => rhs; whnf); (repeat ((first | (apply sgA; with_reducible assumption) | (apply sgT; kernel_rfl) | apply sgP); (conv => rhs; whnf))); exact sgI)) := trivial; refine segM q_ (by kernel_rfl) ?_; clear q_; (repeat (first | with_reducible refine tt ?_ | refine And.intro (by first | with_reducible assumption | kernel_rfl | omega | (simp only [inR, List.length_cons, List.length_nil]; omega)) ?_)))
      refine ⟨spL, rfl, ?_⟩
      refine forK2_ind (fun l vars H => ∃ L : List Int, (∀ e ∈ l, 0 ≤ e.1 ∧ e.1 < 256) ∧ L.length = 256 ∧ l.foldl spe1 L = plainRow ∧ H = [.list [.int 12], .list (intPV L)] ∧ vars = [(sn "found", .ref 1)]) ?_ ?_ _ _ _
        ⟨row1, by decide, by decide, rfl, by kernel_rfl, by kernel_rfl⟩
      · rintro ij r vars H Kt ⟨L, e2, e3, e4, rfl, rfl⟩ hk
        have hc := e2 ij (.head _)
        have hk := hk _ _ ⟨spe1 L ij, fun c h => e2 c (.tail _ h), by simp [spe1, e3], e4, rfl, rfl⟩
        rw [show intPV (spe1 L ij) = (intPV L).set ij.1.toNat (.int ij.2) by rw [intPV_set]; rfl] at hk
        (show ?g38; have q_ : type_of% (px (G := ?g38) (by (conv => rhs; whnf); (repeat ((first | (apply sgA; with_reducible assumption) | (apply sgT; kernel_rfl) | apply sgP); (conv => rhs; whnf))); exact sgI)) := trivial; refine segM q_ (by kernel_rfl) ?_; clear q_; (repeat (first | with_reducible refine tt ?_ | refine And.intro (by first | with_reducible assumption | kernel_rfl | omega | (simp only [inR, List.length_cons, List.length_nil]; omega)) ?_)))
        refine ⟨by rw [intPV_len]; omega, ?_⟩
        (show ?g39; have q_ : type_of% (px (G := ?g39) (by (conv => rhs; whnf); (repeat ((first | (apply sgA; with_reducible assumption) | (apply sgT; kernel_rfl) | apply sgP); (conv => rhs; whnf))); exact sgI)) := trivial; refine segM q_ (by kernel_rfl) ?_; clear q_; (repeat (first | with_reducible refine tt ?_ | refine And.intro (by first | with_reducible assumption | kernel_rfl | omega | (simp only [inR, List.length_cons, List.length_nil]; omega)) ?_)))
        exact Eq.mp (by kernel_rfl) hk
      · rintro vars H ⟨L, e2, e3, e4, rfl, rfl⟩
        have e4 : L = plainRow := e4
        subst e4
        (show ?g40; have q_ : type_of% (px (G := ?g40) (by (conv => rhs; whnf); (repeat ((first | (apply sgA; with_reducible assumption) | (apply sgT; kernel_rfl) | apply sgP); (conv => rhs; whnf))); exact sgI)) := trivial; refine segM q_ (by kernel_rfl) ?_; clear q_; (repeat (first | with_reducible refine tt ?_ | refine And.intro (by first | with_reducible assumption | kernel_rfl | omega | (simp only [inR, List.length_cons, List.length_nil]; omega)) ?_)))
        exact Eq.mp (by kernel_rfl) h
section
variable {prog : Program} {w : World} {h₀ : Heap}
theorem s205 (B : Bs w h₀) : Sound prog w h₀ 205 2 ct205 := (sd205 (lev := 0) B f205 noΓ).imp t205
noncomputable def CH (rows : List Int) : AH := [.inst 235 1, .ns [(sn "rows", .ref 2)], .list (intPV rows)]
noncomputable def U218 : List (Str × SV) := [(sn "plain_categories", .raw (.ref 205))]
theorem f218 : facts U218 [sn "self", sn "rows"] [] [] (cl 26 0) := ⟨⟨by kernel_rfl, by kernel_rfl⟩, by kernel_rfl⟩
noncomputable def ct218 : CT := fun args H K => args = [.ref 1] ∧ H = [.ns [], .inst 235 0] ∧ K (.p .none) [.ns [(sn "rows", .ref 2)], .inst 235 0, .list (intPV plainRow)]
theorem t218 : ∀ args H K, ct218 args H K → ctD 8 [(205, ct205)] U218 [sn "self", sn "rows"] [] [] (cl 26 0) [.p .none] args H K := by
  rintro args H K ⟨rfl, rfl, h⟩
  (show ?g41; have q_ : type_of% (px (G := ?g41) (by (conv => rhs; whnf); (repeat ((first | (apply sgA; with_reducible assumption) | (apply sgT; kernel_rfl) | apply sgP); (conv => rhs; whnf))); exact sgI)) := trivial; refine segM q_ (by kernel_rfl) ?_; clear q_; (repeat (first | with_reducible refine tt ?_ | refine And.intro (by first | with_reducible assumption | kernel_rfl | omega | (simp only [inR, List.length_cons, List.length_nil]; omega)) ?_)))
  exact Eq.mp (by kernel_rfl) h
theorem s218 (B : Bs w h₀) : Sound prog w h₀ 218 4 ct218 := (sd218 (lev := 2) B f218 (consΓ (s205 B) noΓ)).imp t218
noncomputable def ct235 : CT := fun args H K => args = [] ∧ H = [] ∧ K (.ref 1) [.ns [(sn "rows", .ref 2)], .inst 235 0, .list (intPV plainRow)]
theorem lk235 (P : Params) : (K P).lookup 235 = some (clo (sn "CatList") 235 234 #[none, none, some (.str (sn "CatList") 532), some (.str (sn "CatList") 540), some (.builtin "object.__new__"), some (.bool true)]) := by kernel_rfl
theorem cf235 (P : Params) : (specialIn (K P) (.ref 235) "__call__", makesIn (K P) 235, findIn (K P) (.ref 235) "__init__", typeIn (K P) (.ref 218)) = (some (some (.builtin "type.__call__")), true, some (some (.ref 218)), some (.type "function")) := by kernel_rfl
theorem s235 (B : Bs w h₀) : Sound prog w h₀ 235 8 ct235 := by
  have c := cf235 w.params
  simp only [Prod.mk.injEq] at c
  refine (cls_sound B (lk235 _) c.1 c.2.1 c.2.2.1 c.2.2.2 (s218 B)).imp ?_
  rintro args H K ⟨rfl, rfl, h⟩
  exact ⟨rfl, rfl, rfl, h⟩
theorem ixL_int {rows : List Int} {c r : Int} (h0 : 0 ≤ c) (h : rows[c.toNat]? = some r) : ixL c (intPV rows) = some (.int r) := by
  have hlt : c.toNat < rows.length := (List.getElem?_eq_some_iff.mp h).1
  unfold ixL seqIndex?
  rw [intPV_len]
  have h1 : ¬ c < 0 := by omega
  simp only [h1, if_false]
  rw [if_pos (by simp; omega)]
  dsimp only
  unfold intPV
  rw [List.getElem?_map, h]; rfl
noncomputable def U225 : List (Str × SV) := [(sn "is_whole", .raw (.ref 97))]
theorem f225 : facts U225 [sn "self", sn "code"] [] [] (cl 26 1) := ⟨⟨by kernel_rfl, by kernel_rfl⟩, by kernel_rfl⟩
noncomputable def ct225 : CT := fun args H K => ∃ (rows : List Int) (c r : Int), args = [.ref 0, I c] ∧ H = CH rows ∧ (0 ≤ c ∧ c ≤ 255) ∧ rows[c.toNat]? = some r ∧ K (I r) (CH rows)
theorem t225 : ∀ args H K, ct225 args H K → ctD 6 [(97, ct97)] U225 [sn "self", sn "code"] [] [] (cl 26 1) [] args H K := by
  rintro args H K ⟨rows, c, r, rfl, rfl, hc, hr, h⟩
  (show ?g42; have q_ : type_of% (px (G := ?g42) (by (conv => rhs; whnf); (repeat ((first | (apply sgA; with_reducible assumption) | (apply sgT; kernel_rfl) | apply sgP); (conv => rhs; whnf))); exact sgI)) := trivial; refine segM q_ (by kernel_rfl) ?_; clear q_; (repeat (first | with_reducible refine tt ?_ | refine And.intro (by first | with_reducible assumption | kernel_rfl | omega | (simp only [inR, List.length_cons, List.length_nil]; omega)) ?_)))
  refine drec (fun e => absurd e (by simp [hc])) (fun _z => ?_)
  (show ?g43; have q_ : type_of% (px (G := ?g43) (by (conv => rhs; whnf); (repeat ((first | (apply sgA; with_reducible assumption) | (apply sgT; kernel_rfl) | apply sgP); (conv => rhs; whnf))); exact sgI)) := trivial; refine segM q_ (by kernel_rfl) ?_; clear q_; (repeat (first | with_reducible refine tt ?_ | refine And.intro (by first | with_reducible assumption | kernel_rfl | omega | (simp only [inR, List.length_cons, List.length_nil]; omega)) ?_)))
  rw [ixL_int hc.1 hr]
  (show ?g44; have q_ : type_of% (px (G := ?g44) (by (conv => rhs; whnf); (repeat ((first | (apply sgA; with_reducible assumption) | (apply sgT; kernel_rfl) | apply sgP); (conv => rhs; whnf))); exact sgI)) := trivial; refine segM q_ (by kernel_rfl) ?_; clear q_; (repeat (first | with_reducible refine tt ?_ | refine And.intro (by first | with_reducible assumption | kernel_rfl | omega | (simp only [inR, List.length_cons, List.length_nil]; omega)) ?_)))
  exact Eq.mp (by kernel_rfl) h
theorem s225 (B : Bs w h₀) : Sound prog w h₀ 225 4 ct225 := (sd225 (lev := 2) B f225 (consΓ (s97 B) noΓ)).imp t225
theorem f232 : facts U225 [sn "self", sn "code", sn "category"] [] [] (cl 26 2) := ⟨⟨by kernel_rfl, by kernel_rfl⟩, by kernel_rfl⟩
noncomputable def ct232 : CT := fun args H K => ∃ (rows : List Int) (c k : Int), args = [.ref 0, I c, I k] ∧ H = CH rows ∧ (0 ≤ c ∧ c ≤ 255) ∧ (0 ≤ k ∧ k ≤ 15) ∧ rows.length = 256 ∧ K (.p .none) (CH (rows.set c.toNat k))
theorem t232 : ∀ args H K, ct232 args H K → ctD 6 [(97, ct97)] U225 [sn "self", sn "code", sn "category"] [] [] (cl 26 2) [] args H K := by
  rintro args H K ⟨rows, c, k, rfl, rfl, hc, hk, hr, h⟩
  (show ?g45; have q_ : type_of% (px (G := ?g45) (by (conv => rhs; whnf); (repeat ((first | (apply sgA; with_reducible assumption) | (apply sgT; kernel_rfl) | apply sgP); (conv => rhs; whnf))); exact sgI)) := trivial; refine segM q_ (by kernel_rfl) ?_; clear q_; (repeat (first | with_reducible refine tt ?_ | refine And.intro (by first | with_reducible assumption | kernel_rfl | omega | (simp only [inR, List.length_cons, List.length_nil]; omega)) ?_)))
  refine drec (fun e => absurd e (by simp [hc])) (fun _z => ?_)
  (show ?g46; have q_ : type_of% (px (G := ?g46) (by (conv => rhs; whnf); (repeat ((first | (apply sgA; with_reducible assumption) | (apply sgT; kernel_rfl) | apply sgP); (conv => rhs; whnf))); exact sgI)) := trivial; refine segM q_ (by kernel_rfl) ?_; clear q_; (repeat (first | with_reducible refine tt ?_ | refine And.intro (by first | with_reducible assumption | kernel_rfl | omega | (simp only [inR, List.length_cons, List.length_nil]; omega)) ?_)))
  refine drec (fun e => absurd e (by simp [hk])) (fun _z => ?_)
  (show ?g47; have q_ : type_of% (px (G := ?g47) (by (conv => rhs; whnf); (repeat ((first | (apply sgA; with_reducible assumption) | (apply sgT; kernel_rfl) | apply sgP); (conv => rhs; whnf))); exact sgI)) := trivial; refine segM q_ (by kernel_rfl) ?_; clear q_; (repeat (first | with_reducible refine tt ?_ | refine And.intro (by first | with_reducible assumption | kernel_rfl | omega | (simp only [inR, List.length_cons, List.length_nil]; omega)) ?_)))
  refine ⟨by rw [intPV_len]; omega, ?_⟩
  (show ?g48; have q_ : type_of% (px (G := ?g48) (by (conv => rhs; whnf); (repeat ((first | (apply sgA; with_reducible assumption) | (apply sgT; kernel_rfl) | apply sgP); (conv => rhs; whnf))); exact sgI)) := trivial; refine segM q_ (by kernel_rfl) ?_; clear q_; (repeat (first | with_reducible refine tt ?_ | refine And.intro (by first | with_reducible assumption | kernel_rfl | omega | (simp only [inR, List.length_cons, List.length_nil]; omega)) ?_)))
  unfold CH at h
  rw [← intPV_set] at h
  exact Eq.mp (by kernel_rfl) h
theorem s232 (B : Bs w h₀) : Sound prog w h₀ 232 4 ct232 := (sd232 (lev := 2) B f232 (consΓ (s97 B) noΓ)).imp t232
noncomputable def U247 : List (Str × SV) := [(sn "LETTER", I 11)]
theorem f247 : facts U247 [sn "code", sn "letters"] [] [] (tl 27) := ⟨⟨by kernel_rfl, by kernel_rfl⟩, by kernel_rfl⟩
noncomputable def ct247 : CT := fun args H K => ∃ (rows : List Int) (c r : Int), args = [I c, .ref 0] ∧ H = CH rows ∧ (0 ≤ c ∧ c ≤ 255) ∧ rows[c.toNat]? = some r ∧ K (B' (decide (r = 11))) (CH rows)
theorem t247 : ∀ args H K, ct247 args H K → ctD 6 [(225, ct225)] U247 [sn "code", sn "letters"] [] [] (tl 27) [] args H K := by
  rintro args H K ⟨rows, c, r, rfl, rfl, hc, hr, h⟩
  (show ?g49; have q_ : type_of% (px (G := ?g49) (by (conv => rhs; whnf); (repeat ((first | (apply sgA; with_reducible assumption) | (apply sgT; kernel_rfl) | apply sgP); (conv => rhs; whnf))); exact sgI)) := trivial; refine segM q_ (by kernel_rfl) ?_; clear q_; (repeat (first | with_reducible refine tt ?_ | refine And.intro (by first | with_reducible assumption | kernel_rfl | omega | (simp only [inR, List.length_cons, List.length_nil]; omega)) ?_)))
  refine ex3 rows c r ⟨by kernel_rfl, by kernel_rfl, hc, hr, ?_⟩
  (show ?g50; have q_ : type_of% (px (G := ?g50) (by (conv => rhs; whnf); (repeat ((first | (apply sgA; with_reducible assumption) | (apply sgT; kernel_rfl) | apply sgP); (conv => rhs; whnf))); exact sgI)) := trivial; refine segM q_ (by kernel_rfl) ?_; clear q_; (repeat (first | with_reducible refine tt ?_ | refine And.intro (by first | with_reducible assumption | kernel_rfl | omega | (simp only [inR, List.length_cons, List.length_nil]; omega)) ?_)))
  exact Eq.mp (by kernel_rfl) h
theorem s247 (B : Bs w h₀) : Sound prog w h₀ 247 6 ct247 := (sd247 (lev := 4) B f247 (consΓ (s225 B) noΓ)).imp t247
noncomputable def U254 : List (Str × SV) := [(sn "is_whole", .raw (.ref 97)), (sn "chr", .raw (.builtin "chr"))]
theorem f254 : facts U254 [sn "escape"] [] [] (tl 28) := ⟨⟨by kernel_rfl, by kernel_rfl⟩, by kernel_rfl⟩
noncomputable def ch1 (c : Int) : Str := ⟨#[c.toNat]⟩
noncomputable def ct254 : CT := fun args H K => ∃ (c : Int), args = [I c] ∧ H = [] ∧ (0 ≤ c ∧ c ≤ 255) ∧ K (T' (ch1 c)) []
theorem t254 : ∀ args H K, ct254 args H K → ctD 6 [(97, ct97)] U254 [sn "escape"] [] [] (tl 28) [] args H K := by
  rintro args H K ⟨c, rfl, rfl, hc, h⟩
  (show ?g51; have q_ : type_of% (px (G := ?g51) (by (conv => rhs; whnf); (repeat ((first | (apply sgA; with_reducible assumption) | (apply sgT; kernel_rfl) | apply sgP); (conv => rhs; whnf))); exact sgI)) := trivial; refine segM q_ (by kernel_rfl) ?_; clear q_; (repeat (first | with_reducible refine tt ?_ | refine And.intro (by first | with_reducible assumption | kernel_rfl | omega | (simp only [inR, List.length_cons, List.length_nil]; omega)) ?_)))
  refine drec (fun e => ?_) (fun e => absurd e (by simp [hc]))
  (show ?g52; have q_ : type_of% (px (G := ?g52) (by (conv => rhs; whnf); (repeat ((first | (apply sgA; with_reducible assumption) | (apply sgT; kernel_rfl) | apply sgP); (conv => rhs; whnf))); exact sgI)) := trivial; refine segM q_ (by kernel_rfl) ?_; clear q_; (repeat (first | with_reducible refine tt ?_ | refine And.intro (by first | with_reducible assumption | kernel_rfl | omega | (simp only [inR, List.length_cons, List.length_nil]; omega)) ?_)))
  exact Eq.mp (by kernel_rfl) h
theorem s254 (B : Bs w h₀) : Sound prog w h₀ 254 4 ct254 := (sd254 (lev := 2) B f254 (consΓ (s97 B) noΓ)).imp t254
noncomputable def U262 : List (Str × SV) := [(sn "escape_text", .raw (.ref 254))]
theorem f262 : facts U262 [sn "name", sn "escape"] [] [sn "mark"] (tl 29) := ⟨⟨by kernel_rfl, by kernel_rfl⟩, by kernel_rfl⟩
noncomputable def ct262 : CT := fun args H K => ∃ (x : Str) (c : Int), args = [T' x, I c] ∧ H = [] ∧ (0 ≤ c ∧ c ≤ 255) ∧ x ≠ sn "" ∧ x.length < 1000 ∧ K (T' (ch1 c ++ x)) []
theorem t262 : ∀ args H K, ct262 args H K → ctD 6 [(254, ct254)] U262 [sn "name", sn "escape"] [] [sn "mark"] (tl 29) [] args H K := by
  rintro args H K ⟨x, c, rfl, rfl, hc, hx, hl, h⟩
  (show ?g53; have q_ : type_of% (px (G := ?g53) (by (conv => rhs; whnf); (repeat ((first | (apply sgA; with_reducible assumption) | (apply sgT; kernel_rfl) | apply sgP); (conv => rhs; whnf))); exact sgI)) := trivial; refine segM q_ (by kernel_rfl) ?_; clear q_; (repeat (first | with_reducible refine tt ?_ | refine And.intro (by first | with_reducible assumption | kernel_rfl | omega | (simp only [inR, List.length_cons, List.length_nil]; omega)) ?_)))
  refine ⟨c, by kernel_rfl, by kernel_rfl, hc, ?_⟩
  (show ?g54; have q_ : type_of% (px (G := ?g54) (by (conv => rhs; whnf); (repeat ((first | (apply sgA; with_reducible assumption) | (apply sgT; kernel_rfl) | apply sgP); (conv => rhs; whnf))); exact sgI)) := trivial; refine segM q_ (by kernel_rfl) ?_; clear q_; (repeat (first | with_reducible refine tt ?_ | refine And.intro (by first | with_reducible assumption | kernel_rfl | omega | (simp only [inR, List.length_cons, List.length_nil]; omega)) ?_)))
  refine drec (fun e => absurd (of_decide_eq_true e) hx) (fun _z => ?_)
  (show ?g55; have q_ : type_of% (px (G := ?g55) (by (conv => rhs; whnf); (repeat ((first | (apply sgA; with_reducible assumption) | (apply sgT; kernel_rfl) | apply sgP); (conv => rhs; whnf))); exact sgI)) := trivial; refine segM q_ (by kernel_rfl) ?_; clear q_; (repeat (first | with_reducible refine tt ?_ | refine And.intro (by first | with_reducible assumption | kernel_rfl | omega | (simp only [inR, List.length_cons, List.length_nil]; omega)) ?_)))
  refine ⟨Nat.le_trans (show 1 + x.length ≤ 1000 by omega) (by decide), ?_⟩
  (show ?g56; have q_ : type_of% (px (G := ?g56) (by (conv => rhs; whnf); (repeat ((first | (apply sgA; with_reducible assumption) | (apply sgT; kernel_rfl) | apply sgP); (conv => rhs; whnf))); exact sgI)) := trivial; refine segM q_ (by kernel_rfl) ?_; clear q_; (repeat (first | with_reducible refine tt ?_ | refine And.intro (by first | with_reducible assumption | kernel_rfl | omega | (simp only [inR, List.length_cons, List.length_nil]; omega)) ?_)))
  exact Eq.mp (by kernel_rfl) h
theorem s262 (B : Bs w h₀) : Sound prog w h₀ 262 6 ct262 := (sd262 (lev := 4) B f262 (consΓ (s254 B) noΓ)).imp t262
end

noncomputable def NCH (l : List Str) (rows : List Int) : AH := [.inst 187 1, nsN 2 3, .sdict (numsFrom 0 l), .list (strPV l), .inst 235 5, .ns [(sn "rows", .ref 6)], .list (intPV rows)]
noncomputable def bare (rows : List Int) (t : Str) : Bool := match t.cps.toList with
  | [d] => rows[d]? != some 11
  | _ => false
noncomputable def nameW (rows : List Int) (esc : Int) (t : Str) : Str := if bare rows t = true then ch1 esc ++ t else (ch1 esc ++ t) ++ sn " "
noncomputable def others : List Int := [1, 2, 3, 4, 6, 7, 8, 10, 11, 12, 13]
section
variable {prog : Program} {w : World} {h₀ : Heap}
noncomputable def U277 : List (Str × SV) := [(sn "is_token", .raw (.ref 134)), (sn "CONTROL", I 0), (sn "len", .raw (.builtin "len")), (sn "is_letter", .raw (.ref 247)), (sn "ord", .raw (.builtin "ord")), (sn "name_text", .raw (.ref 262)), (sn "OUT", I 5), (sn "MATCH", I 9),
  (sn "FROZEN", I 14), (sn "NOT_EXPANDED", I 15), (sn "chr", .raw (.builtin "chr"))]
theorem f277 : facts U277 [sn "token", sn "names", sn "escape", sn "letters"] [] [sn "category", sn "code", sn "name"] (tl 31) := ⟨⟨by kernel_rfl, by kernel_rfl⟩, by kernel_rfl⟩
noncomputable def Γ277 : List (Addr × CT) := [(134, ct134), (247, ct247), (262, ct262), (177, ct177)]
noncomputable def okName (t : Str) : Prop := okText t ∧ t ≠ sn "" ∧ t.length < 900
noncomputable def ct277 : CT := fun args H K => ∃ (l : List Str) (rows : List Int) (c x esc : Int), args = [.p (.tup [.int c, .int x]), .ref 0, I esc, .ref 4] ∧ H = NCH l rows ∧ (0 ≤ esc ∧ esc ≤ 255) ∧ l.length < 1000 ∧ rows.length = 256 ∧
  ((c = 0 ∧ 0 ≤ x ∧ ∃ t, l[x.toNat]? = some t ∧ okName t ∧ K (T' (nameW rows esc t)) (NCH l rows)) ∨ (c ∈ others ∧ (0 ≤ x ∧ x ≤ 255) ∧ K (T' (ch1 x)) (NCH l rows)))
set_option tactic.hygienic true in
theorem t277 : ∀ args H K, ct277 args H K → ctD 12 Γ277 U277 [sn "token", sn "names", sn "escape", sn "letters"] [] [sn "category", sn "code", sn "name"] (tl 31) [] args H K := by
  rintro args H K ⟨l, rows, c, x, esc, rfl, rfl, hesc, hl, hr, h⟩
  rcases h with ⟨rfl, hx, t, ht, ⟨ht1, ht2, ht3⟩, h⟩ | ⟨hc, hx, h⟩
  · have hxl : x.toNat < l.length := (List.getElem?_eq_some_iff.mp ht).1
    by_cases hs : t.length = 1
    · obtain ⟨d, rfl⟩ : ∃ d, t = ⟨#[d]⟩ := by
        obtain ⟨cps⟩ := t
        obtain ⟨d, hd⟩ := Array.size_eq_one_iff.mp (show cps.size = 1 from hs)
        exact ⟨d, by rw [hd]⟩
      have hd : d ≤ 255 := ht1 d (by simp)
      have hrd : rows[d]? = some rows[d] := List.getElem?_eq_getElem (by omega)
      (show ?g57; have q_ : type_of% (px (G := ?g57) (by (conv => rhs; whnf); (repeat ((first | (apply sgA; with_reducible assumption) | (apply sgT; kernel_rfl) | apply sgP); (conv => rhs; whnf))); exact sgI)) := trivial; refine segM q_ (by kernel_rfl) ?_; clear q_; (repeat (first | with_reducible refine tt ?_ | refine And.intro (by first | with_reducible assumption | kernel_rfl | omega | (simp only [inR, List.length_cons, List.length_nil]; omega)) ?_)))
      refine ⟨.inl ⟨rfl, hx, by omega⟩, ?_⟩
      (show ?g58; have q_ : type_of% (px (G := ?g58) (by (conv => rhs; whnf); (repeat ((first | (apply sgA; with_reducible assumption) | (apply sgT; kernel_rfl) | apply sgP); (conv => rhs; whnf))); exact sgI)) := trivial; refine segM q_ (by kernel_rfl) ?_; clear q_; (repeat (first | with_reducible refine tt ?_ | refine And.intro (by first | with_reducible assumption | kernel_rfl | omega | (simp only [inR, List.length_cons, List.length_nil]; omega)) ?_)))
      refine ex3 l x _ ⟨by kernel_rfl, by kernel_rfl, hl, hx, ht, ?_⟩
      (show ?g59; have q_ : type_of% (px (G := ?g59) (by (conv => rhs; whnf); (repeat ((first | (apply sgA; with_reducible assumption) | (apply sgT; kernel_rfl) | apply sgP); (conv => rhs; whnf))); exact sgI)) := trivial; refine segM q_ (by kernel_rfl) ?_; clear q_; (repeat (first | with_reducible refine tt ?_ | refine And.intro (by first | with_reducible assumption | kernel_rfl | omega | (simp only [inR, List.length_cons, List.length_nil]; omega)) ?_)))
      refine ex3 rows d (rows[d]) ⟨by kernel_rfl, by kernel_rfl, by omega, by simpa using hrd, ?_⟩
      (show ?g60; have q_ : type_of% (px (G := ?g60) (by (conv => rhs; whnf); (repeat ((first | (apply sgA; with_reducible assumption) | (apply sgT; kernel_rfl) | apply sgP); (conv => rhs; whnf))); exact sgI)) := trivial; refine segM q_ (by kernel_rfl) ?_; clear q_; (repeat (first | with_reducible refine tt ?_ | refine And.intro (by first | with_reducible assumption | kernel_rfl | omega | (simp only [inR, List.length_cons, List.length_nil]; omega)) ?_)))
      have hb : bare rows ⟨#[d]⟩ = !decide (rows[d] = 11) := by
        show (rows[d]? != some 11) = _
        rw [hrd]
        by_cases q : rows[d] = 11
        · rw [q]; rfl
        · rw [decide_eq_false q]; simpa using q
      refine drecG (fun e => ?_) (fun e => ?_)
      · have e : decide (rows[d] = 11) = true := by simpa using (show (!decide (rows[d] = 11)) = false from e)
        (show ?g61; have q_ : type_of% (px (G := ?g61) (by (conv => rhs; whnf); (repeat ((first | (apply sgA; with_reducible assumption) | (apply sgT; kernel_rfl) | apply sgP); (conv => rhs; whnf))); exact sgI)) := trivial; refine segM q_ (by kernel_rfl) ?_; clear q_; (repeat (first | with_reducible refine tt ?_ | refine And.intro (by first | with_reducible assumption | kernel_rfl | omega | (simp only [inR, List.length_cons, List.length_nil]; omega)) ?_)))
        refine drec (fun e2 => absurd e2 (by rw [e]; decide)) (fun _z => ?_)
        (show ?g62; have q_ : type_of% (px (G := ?g62) (by (conv => rhs; whnf); (repeat ((first | (apply sgA; with_reducible assumption) | (apply sgT; kernel_rfl) | apply sgP); (conv => rhs; whnf))); exact sgI)) := trivial; refine segM q_ (by kernel_rfl) ?_; clear q_; (repeat (first | with_reducible refine tt ?_ | refine And.intro (by first | with_reducible assumption | kernel_rfl | omega | (simp only [inR, List.length_cons, List.length_nil]; omega)) ?_)))
        refine ex2 _ esc ⟨by kernel_rfl, by kernel_rfl, hesc, ht2, by omega, ?_⟩
        (show ?g63; have q_ : type_of% (px (G := ?g63) (by (conv => rhs; whnf); (repeat ((first | (apply sgA; with_reducible assumption) | (apply sgT; kernel_rfl) | apply sgP); (conv => rhs; whnf))); exact sgI)) := trivial; refine segM q_ (by kernel_rfl) ?_; clear q_; (repeat (first | with_reducible refine tt ?_ | refine And.intro (by first | with_reducible assumption | kernel_rfl | omega | (simp only [inR, List.length_cons, List.length_nil]; omega)) ?_)))
        refine ⟨Nat.le_trans (show (ch1 esc ++ (⟨#[d]⟩ : Str)).length + 1 ≤ 1000 by rw [Str.length_append]; show 1 + 1 + 1 ≤ 1000; omega) (by decide), ?_⟩
        (show ?g64; have q_ : type_of% (px (G := ?g64) (by (conv => rhs; whnf); (repeat ((first | (apply sgA; with_reducible assumption) | (apply sgT; kernel_rfl) | apply sgP); (conv => rhs; whnf))); exact sgI)) := trivial; refine segM q_ (by kernel_rfl) ?_; clear q_; (repeat (first | with_reducible refine tt ?_ | refine And.intro (by first | with_reducible assumption | kernel_rfl | omega | (simp only [inR, List.length_cons, List.length_nil]; omega)) ?_)))
        rw [e] at hb
        unfold nameW at h
        rw [hb] at h
        exact Eq.mp (by kernel_rfl) h
      · have e : (!decide (rows[d] = 11)) = true := by
          cases q : (!decide (rows[d] = 11)) with
          | true => rfl
          | false => exact absurd q e
        (show ?g65; have q_ : type_of% (px (G := ?g65) (by (conv => rhs; whnf); (repeat ((first | (apply sgA; with_reducible assumption) | (apply sgT; kernel_rfl) | apply sgP); (conv => rhs; whnf))); exact sgI)) := trivial; refine segM q_ (by kernel_rfl) ?_; clear q_; (repeat (first | with_reducible refine tt ?_ | refine And.intro (by first | with_reducible assumption | kernel_rfl | omega | (simp only [inR, List.length_cons, List.length_nil]; omega)) ?_)))
        refine ex2 _ esc ⟨by kernel_rfl, by kernel_rfl, hesc, ht2, by omega, ?_⟩
        (show ?g66; have q_ : type_of% (px (G := ?g66) (by (conv => rhs; whnf); (repeat ((first | (apply sgA; with_reducible assumption) | (apply sgT; kernel_rfl) | apply sgP); (conv => rhs; whnf))); exact sgI)) := trivial; refine segM q_ (by kernel_rfl) ?_; clear q_; (repeat (first | with_reducible refine tt ?_ | refine And.intro (by first | with_reducible assumption | kernel_rfl | omega | (simp only [inR, List.length_cons, List.length_nil]; omega)) ?_)))
        rw [e] at hb
        unfold nameW at h
        rw [hb] at h
        exact Eq.mp (by kernel_rfl) h
    · (show ?g67; have q_ : type_of% (px (G := ?g67) (by (conv => rhs; whnf); (repeat ((first | (apply sgA; with_reducible assumption) | (apply sgT; kernel_rfl) | apply sgP); (conv => rhs; whnf))); exact sgI)) := trivial; refine segM q_ (by kernel_rfl) ?_; clear q_; (repeat (first | with_reducible refine tt ?_ | refine And.intro (by first | with_reducible assumption | kernel_rfl | omega | (simp only [inR, List.length_cons, List.length_nil]; omega)) ?_)))
      refine ⟨.inl ⟨rfl, hx, by omega⟩, ?_⟩
      (show ?g68; have q_ : type_of% (px (G := ?g68) (by (conv => rhs; whnf); (repeat ((first | (apply sgA; with_reducible assumption) | (apply sgT; kernel_rfl) | apply sgP); (conv => rhs; whnf))); exact sgI)) := trivial; refine segM q_ (by kernel_rfl) ?_; clear q_; (repeat (first | with_reducible refine tt ?_ | refine And.intro (by first | with_reducible assumption | kernel_rfl | omega | (simp only [inR, List.length_cons, List.length_nil]; omega)) ?_)))
      refine ex3 l x t ⟨by kernel_rfl, by kernel_rfl, hl, hx, ht, ?_⟩
      (show ?g69; have q_ : type_of% (px (G := ?g69) (by (conv => rhs; whnf); (repeat ((first | (apply sgA; with_reducible assumption) | (apply sgT; kernel_rfl) | apply sgP); (conv => rhs; whnf))); exact sgI)) := trivial; refine segM q_ (by kernel_rfl) ?_; clear q_; (repeat (first | with_reducible refine tt ?_ | refine And.intro (by first | with_reducible assumption | kernel_rfl | omega | (simp only [inR, List.length_cons, List.length_nil]; omega)) ?_)))
      refine drecG (fun e => ?_) (fun e => absurd (show decide ((t.length : Int) = 1) = false by simp; omega) e)
      (show ?g70; have q_ : type_of% (px (G := ?g70) (by (conv => rhs; whnf); (repeat ((first | (apply sgA; with_reducible assumption) | (apply sgT; kernel_rfl) | apply sgP); (conv => rhs; whnf))); exact sgI)) := trivial; refine segM q_ (by kernel_rfl) ?_; clear q_; (repeat (first | with_reducible refine tt ?_ | refine And.intro (by first | with_reducible assumption | kernel_rfl | omega | (simp only [inR, List.length_cons, List.length_nil]; omega)) ?_)))
      refine drec (fun e2 => absurd (Eq.symm e |>.trans e2) (by decide)) (fun _z => ?_)
      (show ?g71; have q_ : type_of% (px (G := ?g71) (by (conv => rhs; whnf); (repeat ((first | (apply sgA; with_reducible assumption) | (apply sgT; kernel_rfl) | apply sgP); (conv => rhs; whnf))); exact sgI)) := trivial; refine segM q_ (by kernel_rfl) ?_; clear q_; (repeat (first | with_reducible refine tt ?_ | refine And.intro (by first | with_reducible assumption | kernel_rfl | omega | (simp only [inR, List.length_cons, List.length_nil]; omega)) ?_)))
      refine ex2 t esc ⟨by kernel_rfl, by kernel_rfl, hesc, ht2, by omega, ?_⟩
      (show ?g72; have q_ : type_of% (px (G := ?g72) (by (conv => rhs; whnf); (repeat ((first | (apply sgA; with_reducible assumption) | (apply sgT; kernel_rfl) | apply sgP); (conv => rhs; whnf))); exact sgI)) := trivial; refine segM q_ (by kernel_rfl) ?_; clear q_; (repeat (first | with_reducible refine tt ?_ | refine And.intro (by first | with_reducible assumption | kernel_rfl | omega | (simp only [inR, List.length_cons, List.length_nil]; omega)) ?_)))
      refine ⟨Nat.le_trans (show (ch1 esc ++ t).length + 1 ≤ 1000 by rw [Str.length_append]; show 1 + t.length + 1 ≤ _; omega) (by decide), ?_⟩
      (show ?g73; have q_ : type_of% (px (G := ?g73) (by (conv => rhs; whnf); (repeat ((first | (apply sgA; with_reducible assumption) | (apply sgT; kernel_rfl) | apply sgP); (conv => rhs; whnf))); exact sgI)) := trivial; refine segM q_ (by kernel_rfl) ?_; clear q_; (repeat (first | with_reducible refine tt ?_ | refine And.intro (by first | with_reducible assumption | kernel_rfl | omega | (simp only [inR, List.length_cons, List.length_nil]; omega)) ?_)))
      have hb : bare rows t = false := by
        unfold bare
        split
        · rename_i d q
          exfalso; apply hs
          have := congrArg List.length q
          simpa [Str.length] using this
        · rfl
      unfold nameW at h
      rw [hb] at h
      exact Eq.mp (by kernel_rfl) h
  · simp only [others, List.mem_cons, List.not_mem_nil, or_false] at hc
    rcases hc with rfl | rfl | rfl | rfl | rfl | rfl | rfl | rfl | rfl | rfl | rfl
    · (show ?g74; have q_ : type_of% (px (G := ?g74) (by (conv => rhs; whnf); (repeat ((first | (apply sgA; with_reducible assumption) | (apply sgT; kernel_rfl) | apply sgP); (conv => rhs; whnf))); exact sgI)) := trivial; refine segM q_ (by kernel_rfl) ?_; clear q_; (repeat (first | with_reducible refine tt ?_ | refine And.intro (by first | with_reducible assumption | kernel_rfl | omega | (simp only [inR, List.length_cons, List.length_nil]; omega)) ?_)))
      refine ⟨.inr ⟨by decide, hx⟩, ?_⟩
      (show ?g75; have q_ : type_of% (px (G := ?g75) (by (conv => rhs; whnf); (repeat ((first | (apply sgA; with_reducible assumption) | (apply sgT; kernel_rfl) | apply sgP); (conv => rhs; whnf))); exact sgI)) := trivial; refine segM q_ (by kernel_rfl) ?_; clear q_; (repeat (first | with_reducible refine tt ?_ | refine And.intro (by first | with_reducible assumption | kernel_rfl | omega | (simp only [inR, List.length_cons, List.length_nil]; omega)) ?_)))
      exact Eq.mp (by kernel_rfl) h
    · (show ?g76; have q_ : type_of% (px (G := ?g76) (by (conv => rhs; whnf); (repeat ((first | (apply sgA; with_reducible assumption) | (apply sgT; kernel_rfl) | apply sgP); (conv => rhs; whnf))); exact sgI)) := trivial; refine segM q_ (by kernel_rfl) ?_; clear q_; (repeat (first | with_reducible refine tt ?_ | refine And.intro (by first | with_reducible assumption | kernel_rfl | omega | (simp only [inR, List.length_cons, List.length_nil]; omega)) ?_)))
      refine ⟨.inr ⟨by decide, hx⟩, ?_⟩
      (show ?g77; have q_ : type_of% (px (G := ?g77) (by (conv => rhs; whnf); (repeat ((first | (apply sgA; with_reducible assumption) | (apply sgT; kernel_rfl) | apply sgP); (conv => rhs; whnf))); exact sgI)) := trivial; refine segM q_ (by kernel_rfl) ?_; clear q_; (repeat (first | with_reducible refine tt ?_ | refine And.intro (by first | with_reducible assumption | kernel_rfl | omega | (simp only [inR, List.length_cons, List.length_nil]; omega)) ?_)))
      exact Eq.mp (by kernel_rfl) h
    · (show ?g78; have q_ : type_of% (px (G := ?g78) (by (conv => rhs; whnf); (repeat ((first | (apply sgA; with_reducible assumption) | (apply sgT; kernel_rfl) | apply sgP); (conv => rhs; whnf))); exact sgI)) := trivial; refine segM q_ (by kernel_rfl) ?_; clear q_; (repeat (first | with_reducible refine tt ?_ | refine And.intro (by first | with_reducible assumption | kernel_rfl | omega | (simp only [inR, List.length_cons, List.length_nil]; omega)) ?_)))
      refine ⟨.inr ⟨by decide, hx⟩, ?_⟩
      (show ?g79; have q_ : type_of% (px (G := ?g79) (by (conv => rhs; whnf); (repeat ((first | (apply sgA; with_reducible assumption) | (apply sgT; kernel_rfl) | apply sgP); (conv => rhs; whnf))); exact sgI)) := trivial; refine segM q_ (by kernel_rfl) ?_; clear q_; (repeat (first | with_reducible refine tt ?_ | refine And.intro (by first | with_reducible assumption | kernel_rfl | omega | (simp only [inR, List.length_cons, List.length_nil]; omega)) ?_)))
      exact Eq.mp (by kernel_rfl) h
    · (show ?g80; have q_ : type_of% (px (G := ?g80) (by (conv => rhs; whnf); (repeat ((first | (apply sgA; with_reducible assumption) | (apply sgT; kernel_rfl) | apply sgP); (conv => rhs; whnf))); exact sgI)) := trivial; refine segM q_ (by kernel_rfl) ?_; clear q_; (repeat (first | with_reducible refine tt ?_ | refine And.intro (by first | with_reducible assumption | kernel_rfl | omega | (simp only [inR, List.length_cons, List.length_nil]; omega)) ?_)))
      refine ⟨.inr ⟨by decide, hx⟩, ?_⟩
      (show ?g81; have q_ : type_of% (px (G := ?g81) (by (conv => rhs; whnf); (repeat ((first | (apply sgA; with_reducible assumption) | (apply sgT; kernel_rfl) | apply sgP); (conv => rhs; whnf))); exact sgI)) := trivial; refine segM q_ (by kernel_rfl) ?_; clear q_; (repeat (first | with_reducible refine tt ?_ | refine And.intro (by first | with_reducible assumption | kernel_rfl | omega | (simp only [inR, List.length_cons, List.length_nil]; omega)) ?_)))
      exact Eq.mp (by kernel_rfl) h
    · (show ?g82; have q_ : type_of% (px (G := ?g82) (by (conv => rhs; whnf); (repeat ((first | (apply sgA; with_reducible assumption) | (apply sgT; kernel_rfl) | apply sgP); (conv => rhs; whnf))); exact sgI)) := trivial; refine segM q_ (by kernel_rfl) ?_; clear q_; (repeat (first | with_reducible refine tt ?_ | refine And.intro (by first | with_reducible assumption | kernel_rfl | omega | (simp only [inR, List.length_cons, List.length_nil]; omega)) ?_)))
      refine ⟨.inr ⟨by decide, hx⟩, ?_⟩
      (show ?g83; have q_ : type_of% (px (G := ?g83) (by (conv => rhs; whnf); (repeat ((first | (apply sgA; with_reducible assumption) | (apply sgT; kernel_rfl) | apply sgP); (conv => rhs; whnf))); exact sgI)) := trivial; refine segM q_ (by kernel_rfl) ?_; clear q_; (repeat (first | with_reducible refine tt ?_ | refine And.intro (by first | with_reducible assumption | kernel_rfl | omega | (simp only [inR, List.length_cons, List.length_nil]; omega)) ?_)))
      exact Eq.mp (by kernel_rfl) h
    · (show ?g84; have q_ : type_of% (px (G := ?g84) (by (conv => rhs; whnf); (repeat ((first | (apply sgA; with_reducible assumption) | (apply sgT; kernel_rfl) | apply sgP); (conv => rhs; whnf))); exact sgI)) := trivial; refine segM q_ (by kernel_rfl) ?_; clear q_; (repeat (first | with_reducible refine tt ?_ | refine And.intro (by first | with_reducible assumption | kernel_rfl | omega | (simp only [inR, List.length_cons, List.length_nil]; omega)) ?_)))
      refine ⟨.inr ⟨by decide, hx⟩, ?_⟩
      (show ?g85; have q_ : type_of% (px (G := ?g85) (by (conv => rhs; whnf); (repeat ((first | (apply sgA; with_reducible assumption) | (apply sgT; kernel_rfl) | apply sgP); (conv => rhs; whnf))); exact sgI)) := trivial; refine segM q_ (by kernel_rfl) ?_; clear q_; (repeat (first | with_reducible refine tt ?_ | refine And.intro (by first | with_reducible assumption | kernel_rfl | omega | (simp only [inR, List.length_cons, List.length_nil]; omega)) ?_)))
      exact Eq.mp (by kernel_rfl) h
    · (show ?g86; have q_ : type_of% (px (G := ?g86) (by (conv => rhs; whnf); (repeat ((first | (apply sgA; with_reducible assumption) | (apply sgT; kernel_rfl) | apply sgP); (conv => rhs; whnf))); exact sgI)) := trivial; refine segM q_ (by kernel_rfl) ?_; clear q_; (repeat (first | with_reducible refine tt ?_ | refine And.intro (by first | with_reducible assumption | kernel_rfl | omega | (simp only [inR, List.length_cons, List.length_nil]; omega)) ?_)))
      refine ⟨.inr ⟨by decide, hx⟩, ?_⟩
      (show ?g87; have q_ : type_of% (px (G := ?g87) (by (conv => rhs; whnf); (repeat ((first | (apply sgA; with_reducible assumption) | (apply sgT; kernel_rfl) | apply sgP); (conv => rhs; whnf))); exact sgI)) := trivial; refine segM q_ (by kernel_rfl) ?_; clear q_; (repeat (first | with_reducible refine tt ?_ | refine And.intro (by first | with_reducible assumption | kernel_rfl | omega | (simp only [inR, List.length_cons, List.length_nil]; omega)) ?_)))
      exact Eq.mp (by kernel_rfl) h
    · (show ?g88; have q_ : type_of% (px (G := ?g88) (by (conv => rhs; whnf); (repeat ((first | (apply sgA; with_reducible assumption) | (apply sgT; kernel_rfl) | apply sgP); (conv => rhs; whnf))); exact sgI)) := trivial; refine segM q_ (by kernel_rfl) ?_; clear q_; (repeat (first | with_reducible refine tt ?_ | refine And.intro (by first | with_reducible assumption | kernel_rfl | omega | (simp only [inR, List.length_cons, List.length_nil]; omega)) ?_)))
      refine ⟨.inr ⟨by decide, hx⟩, ?_⟩
      (show ?g89; have q_ : type_of% (px (G := ?g89) (by (conv => rhs; whnf); (repeat ((first | (apply sgA; with_reducible assumption) | (apply sgT; kernel_rfl) | apply sgP); (conv => rhs; whnf))); exact sgI)) := trivial; refine segM q_ (by kernel_rfl) ?_; clear q_; (repeat (first | with_reducible refine tt ?_ | refine And.intro (by first | with_reducible assumption | kernel_rfl | omega | (simp only [inR, List.length_cons, List.length_nil]; omega)) ?_)))
      exact Eq.mp (by kernel_rfl) h
    · (show ?g90; have q_ : type_of% (px (G := ?g90) (by (conv => rhs; whnf); (repeat ((first | (apply sgA; with_reducible assumption) | (apply sgT; kernel_rfl) | apply sgP); (conv => rhs; whnf))); exact sgI)) := trivial; refine segM q_ (by kernel_rfl) ?_; clear q_; (repeat (first | with_reducible refine tt ?_ | refine And.intro (by first | with_reducible assumption | kernel_rfl | omega | (simp only [inR, List.length_cons, List.length_nil]; omega)) ?_)))
      refine ⟨.inr ⟨by decide, hx⟩, ?_⟩
      (show ?g91; have q_ : type_of% (px (G := ?g91) (by (conv => rhs; whnf); (repeat ((first | (apply sgA; with_reducible assumption) | (apply sgT; kernel_rfl) | apply sgP); (conv => rhs; whnf))); exact sgI)) := trivial; refine segM q_ (by kernel_rfl) ?_; clear q_; (repeat (first | with_reducible refine tt ?_ | refine And.intro (by first | with_reducible assumption | kernel_rfl | omega | (simp only [inR, List.length_cons, List.length_nil]; omega)) ?_)))
      exact Eq.mp (by kernel_rfl) h
    · (show ?g92; have q_ : type_of% (px (G := ?g92) (by (conv => rhs; whnf); (repeat ((first | (apply sgA; with_reducible assumption) | (apply sgT; kernel_rfl) | apply sgP); (conv => rhs; whnf))); exact sgI)) := trivial; refine segM q_ (by kernel_rfl) ?_; clear q_; (repeat (first | with_reducible refine tt ?_ | refine And.intro (by first | with_reducible assumption | kernel_rfl | omega | (simp only [inR, List.length_cons, List.length_nil]; omega)) ?_)))
      refine ⟨.inr ⟨by decide, hx⟩, ?_⟩
      (show ?g93; have q_ : type_of% (px (G := ?g93) (by (conv => rhs; whnf); (repeat ((first | (apply sgA; with_reducible assumption) | (apply sgT; kernel_rfl) | apply sgP); (conv => rhs; whnf))); exact sgI)) := trivial; refine segM q_ (by kernel_rfl) ?_; clear q_; (repeat (first | with_reducible refine tt ?_ | refine And.intro (by first | with_reducible assumption | kernel_rfl | omega | (simp only [inR, List.length_cons, List.length_nil]; omega)) ?_)))
      exact Eq.mp (by kernel_rfl) h
    · (show ?g94; have q_ : type_of% (px (G := ?g94) (by (conv => rhs; whnf); (repeat ((first | (apply sgA; with_reducible assumption) | (apply sgT; kernel_rfl) | apply sgP); (conv => rhs; whnf))); exact sgI)) := trivial; refine segM q_ (by kernel_rfl) ?_; clear q_; (repeat (first | with_reducible refine tt ?_ | refine And.intro (by first | with_reducible assumption | kernel_rfl | omega | (simp only [inR, List.length_cons, List.length_nil]; omega)) ?_)))
      refine ⟨.inr ⟨by decide, hx⟩, ?_⟩
      (show ?g95; have q_ : type_of% (px (G := ?g95) (by (conv => rhs; whnf); (repeat ((first | (apply sgA; with_reducible assumption) | (apply sgT; kernel_rfl) | apply sgP); (conv => rhs; whnf))); exact sgI)) := trivial; refine segM q_ (by kernel_rfl) ?_; clear q_; (repeat (first | with_reducible refine tt ?_ | refine And.intro (by first | with_reducible assumption | kernel_rfl | omega | (simp only [inR, List.length_cons, List.length_nil]; omega)) ?_)))
      exact Eq.mp (by kernel_rfl) h
theorem s277 (B : Bs w h₀) : Sound prog w h₀ 277 8 ct277 :=
  (sd277 (lev := 6) B f277 (consΓ ((s134 B).mono (by decide)) (consΓ (s247 B) (consΓ (s262 B) (consΓ ((s177 B).mono (by decide)) noΓ))))).imp t277
end

noncomputable def cat : List Str → Str
  | [] => ⟨#[]⟩
  | x :: r => x ++ cat r
noncomputable def tokPV (t : Int × Int) : PV := .tup [.int t.1, .int t.2]
noncomputable def tokStr (l : List Str) (rows : List Int) (esc : Int) (t : Int × Int) : Str := if t.1 = 0 then nameW rows esc ((l[t.2.toNat]?).getD ⟨#[]⟩) else ch1 t.2
noncomputable def partS (l : List Str) (rows : List Int) (esc : Int) (t : Int × Int) : Str := if t.1 = 6 then tokStr l rows esc t ++ tokStr l rows esc t else tokStr l rows esc t
noncomputable def tokV (l : List Str) (t : Int × Int) : Prop := (t.1 = 0 ∧ 0 ≤ t.2 ∧ ∃ x, l[t.2.toNat]? = some x ∧ okName x) ∨ (t.1 ∈ others ∧ (0 ≤ t.2 ∧ t.2 ≤ 255))
theorem nameW_len {rows : List Int} {esc : Int} {t : Str} (h : t.length < 900) : (nameW rows esc t).length ≤ 902 := by
  unfold nameW
  split
  · rw [Str.length_append]; show 1 + t.length ≤ _; omega
  · rw [Str.length_append, Str.length_append]; show 1 + t.length + 1 ≤ _; omega
theorem tokStr_len {l : List Str} {rows : List Int} {esc : Int} {t : Int × Int} (h : tokV l t) : (tokStr l rows esc t).length ≤ 902 := by
  unfold tokStr
  rcases h with ⟨h1, _, x, h2, h3⟩ | ⟨h1, _⟩
  · rw [if_pos h1, h2]; exact nameW_len h3.2.2
  · rw [if_neg (by intro q; rw [q] at h1; revert h1; decide)]
    show 1 ≤ _; omega
theorem tok277 {l : List Str} {rows : List Int} {esc : Int} {t : Int × Int} {K : Kv} (hesc : 0 ≤ esc ∧ esc ≤ 255) (hl : l.length < 1000) (hr : rows.length = 256) (h : tokV l t) (k : K (T' (tokStr l rows esc t)) (NCH l rows)) :
    ct277 [.p (tokPV t), .ref 0, I esc, .ref 4] (NCH l rows) K := by
  refine ⟨l, rows, t.1, t.2, esc, rfl, rfl, hesc, hl, hr, ?_⟩
  unfold tokStr at k
  rcases h with ⟨h1, h0, x, h2, h3⟩ | ⟨h1, h2⟩
  · rw [if_pos h1, h2] at k
    exact .inl ⟨h1, h0, x, h2, h3, k⟩
  · rw [if_neg (by intro q; rw [q] at h1; revert h1; decide)] at k
    exact .inr ⟨h1, h2, k⟩
theorem strsOf_strPV : ∀ l : List Str, strsOf (strPV l) = some l
  | [] => rfl
  | x :: r => by simp [strPV, strsOf, strsOf_strPV r]
theorem callH {c ct : CT} (hc : c = ct) {a : List SV} {H : AH} {K : Kv} (a' : List SV) (H' : AH) (ha : a' = a) (hH : H' = H) (h : ct a' H' K) : c a H K := by
  subst hc; subst ha; subst hH; exact h
section
variable {prog : Program} {w : World} {h₀ : Heap}
noncomputable def U285 : List (Str × SV) := [(sn "show_token", .raw (.ref 277)), (sn "PARAMETER", I 6)]
theorem f285 : facts U285 [sn "tokens", sn "names", sn "escape", sn "letters"] [] [sn "found", sn "token", sn "part"] (tl 32) := ⟨⟨by kernel_rfl, by kernel_rfl⟩, by kernel_rfl⟩
noncomputable def ct285 : CT := fun args H K => ∃ (l : List Str) (rows : List Int) (toks : List (Int × Int)) (esc : Int), args = [.p (.tup (toks.map tokPV)), .ref 0, I esc, .ref 4] ∧ H = NCH l rows ∧ (0 ≤ esc ∧ esc ≤ 255) ∧ l.length < 1000 ∧ rows.length = 256 ∧ toks.length ≤ 100 ∧
  (∀ t ∈ toks, tokV l t) ∧ K (T' (cat (toks.map (partS l rows esc)))) (NCH l rows)
theorem join_eq : ∀ l : List Str, Str.join (sn "") l = cat l
  | [] => rfl
  | [x] => by
    show x = x ++ (⟨#[]⟩ : Str)
    exact (Str.append_empty x).symm
  | x :: y :: r => by
    show x ++ sn "" ++ Str.join (sn "") (y :: r) = x ++ cat (y :: r)
    rw [join_eq (y :: r), show x ++ sn "" = x from Str.append_empty x]
theorem fold_len : ∀ (l : List Str) (k : Nat), (∀ x ∈ l, x.length ≤ 2000) → l.foldl (fun (a : Nat) (x : Str) => a + x.length + (sn "").length) k ≤ k + 2000 * l.length
  | [], k, _ => by simp
  | x :: r, k, h => by
    have h1 := h x (.head _)
    have h2 := fold_len r (k + x.length + (sn "").length) fun y hy => h y (.tail _ hy)
    have h3 : (sn "").length = 0 := by decide +kernel
    simp only [List.foldl_cons, List.length_cons]
    omega
theorem join_ok (l : List Str) (hl : l.length ≤ 100) (h : ∀ x ∈ l, x.length ≤ 2000) : JoinOk (sn "") l = true := by
  unfold JoinOk
  have h1 := fold_len l 0 h
  rw [List.foldl_toArray]
  have : Builtin.Str.tooLong (l.foldl (fun (a : Nat) (x : Str) => a + x.length + (sn "").length) 0) = false := by
    unfold Builtin.Str.tooLong
    refine decide_eq_false (Nat.not_lt.mpr (Nat.le_trans h1 ?_))
    refine Nat.le_trans (show 0 + 2000 * l.length ≤ 200000 by omega) (by decide)
  rw [this]; rfl
theorem t285 : ∀ args H K, ct285 args H K → ctD 12 [(277, ct277)] U285 [sn "tokens", sn "names", sn "escape", sn "letters"] [] [sn "found", sn "token", sn "part"] (tl 32) [] args H K := by
  rintro args H K ⟨l, rows, toks, esc, rfl, rfl, hesc, hl, hr, ht, hv, h⟩
  obtain ⟨c277, hc⟩ : ∃ c : CT, c = ct277 := ⟨_, rfl⟩
  rw [← hc]
  (show ?g96; have q_ : type_of% (px (G := ?g96) (by (conv => rhs; whnf); (repeat ((first | (apply sgA; with_reducible assumption) | (apply sgT; kernel_rfl) | apply sgP); (conv => rhs; whnf))); exact sgI)) := trivial; refine segM q_ (by kernel_rfl) ?_; clear q_; (repeat (first | with_reducible refine tt ?_ | refine And.intro (by first | with_reducible assumption | kernel_rfl | omega | (simp only [inR, List.length_cons, List.length_nil]; omega)) ?_)))
  refine ⟨toks.map tokPV, rfl, ?_⟩
  refine forK_ind (fun ps vars H => ∃ ts done, ps = ts.map tokPV ∧ toks = done ++ ts ∧ H = NCH l rows ++ [.list (strPV (done.map (partS l rows esc)))] ∧
    vars = [(sn "tokens", .p (.tup (toks.map tokPV))), (sn "names", .ref 0), (sn "escape", I esc), (sn "letters", .ref 4), (sn "found", .ref 7)]) ?_ ?_ _ _ _
    ⟨toks, [], rfl, rfl, by kernel_rfl, by kernel_rfl⟩
  · rintro i r vars H Kt ⟨ts, done, e1, e2, rfl, rfl⟩ hk
    cases ts with
    | nil => cases e1
    | cons t ts =>
      cases e1
      have htv := hv t (by rw [e2]; simp)
      have hlen := tokStr_len (rows := rows) (esc := esc) htv
      have hdl : done.length ≤ 100 := by rw [e2] at ht; simp at ht; omega
      have hk := hk _ _ ⟨ts, done ++ [t], rfl, by rw [e2]; simp, rfl, rfl⟩
      rw [List.map_append, List.map_cons, List.map_nil, ← strPV_app] at hk
      unfold partS at hk
      have hsz : (strPV (done.map (partS l rows esc))).length ≤ sizeLine := by rw [strPV_len, List.length_map]; exact Nat.le_trans hdl (by decide)
      (show ?g97; have q_ : type_of% (px (G := ?g97) (by (conv => rhs; whnf); (repeat ((first | (apply sgA; with_reducible assumption) | (apply sgT; kernel_rfl) | apply sgP); (conv => rhs; whnf))); exact sgI)) := trivial; refine segM q_ (by kernel_rfl) ?_; clear q_; (repeat (first | with_reducible refine tt ?_ | refine And.intro (by first | with_reducible assumption | kernel_rfl | omega | (simp only [inR, List.length_cons, List.length_nil]; omega)) ?_)))
      refine callH hc [.p (tokPV t), .ref 0, I esc, .ref 4] (NCH l rows) (by kernel_rfl) (by kernel_rfl) (tok277 hesc hl hr htv ?_)
      (show ?g98; have q_ : type_of% (px (G := ?g98) (by (conv => rhs; whnf); (repeat ((first | (apply sgA; with_reducible assumption) | (apply sgT; kernel_rfl) | apply sgP); (conv => rhs; whnf))); exact sgI)) := trivial; refine segM q_ (by kernel_rfl) ?_; clear q_; (repeat (first | with_reducible refine tt ?_ | refine And.intro (by first | with_reducible assumption | kernel_rfl | omega | (simp only [inR, List.length_cons, List.length_nil]; omega)) ?_)))
      refine drec (fun e => ?_) (fun e => ?_)
      · rw [if_pos (of_decide_eq_true e)] at hk
        (show ?g99; have q_ : type_of% (px (G := ?g99) (by (conv => rhs; whnf); (repeat ((first | (apply sgA; with_reducible assumption) | (apply sgT; kernel_rfl) | apply sgP); (conv => rhs; whnf))); exact sgI)) := trivial; refine segM q_ (by kernel_rfl) ?_; clear q_; (repeat (first | with_reducible refine tt ?_ | refine And.intro (by first | with_reducible assumption | kernel_rfl | omega | (simp only [inR, List.length_cons, List.length_nil]; omega)) ?_)))
        refine ⟨Nat.le_trans (show (tokStr l rows esc t).length + (tokStr l rows esc t).length ≤ 2000 by omega) (by decide), ?_⟩
        (show ?g100; have q_ : type_of% (px (G := ?g100) (by (conv => rhs; whnf); (repeat ((first | (apply sgA; with_reducible assumption) | (apply sgT; kernel_rfl) | apply sgP); (conv => rhs; whnf))); exact sgI)) := trivial; refine segM q_ (by kernel_rfl) ?_; clear q_; (repeat (first | with_reducible refine tt ?_ | refine And.intro (by first | with_reducible assumption | kernel_rfl | omega | (simp only [inR, List.length_cons, List.length_nil]; omega)) ?_)))
        exact Eq.mp (by kernel_rfl) hk
      · rw [if_neg (of_decide_eq_false e)] at hk
        (show ?g101; have q_ : type_of% (px (G := ?g101) (by (conv => rhs; whnf); (repeat ((first | (apply sgA; with_reducible assumption) | (apply sgT; kernel_rfl) | apply sgP); (conv => rhs; whnf))); exact sgI)) := trivial; refine segM q_ (by kernel_rfl) ?_; clear q_; (repeat (first | with_reducible refine tt ?_ | refine And.intro (by first | with_reducible assumption | kernel_rfl | omega | (simp only [inR, List.length_cons, List.length_nil]; omega)) ?_)))
        exact Eq.mp (by kernel_rfl) hk
  · rintro vars H ⟨ts, done, e1, e2, rfl, rfl⟩
    cases ts with
    | cons => cases e1
    | nil =>
      rw [List.append_nil] at e2
      subst e2
      have hj : JoinOk (sn "") (toks.map (partS l rows esc)) = true := by
        refine join_ok _ (by simpa using ht) fun x hx => ?_
        obtain ⟨t, htm, rfl⟩ := List.mem_map.mp hx
        have := tokStr_len (rows := rows) (esc := esc) (hv t htm)
        unfold partS
        split
        · rw [Str.length_append]; omega
        · omega
      have : Txt.join (sn "") (toks.map (partS l rows esc)) = cat (toks.map (partS l rows esc)) := by
        rw [← join_eq]
        exact StrLaws.glued_eq_join _ _
      rw [← this] at h
      (show ?g102; have q_ : type_of% (px (G := ?g102) (by (conv => rhs; whnf); (repeat ((first | (apply sgA; with_reducible assumption) | (apply sgT; kernel_rfl) | apply sgP); (conv => rhs; whnf))); exact sgI)) := trivial; refine segM q_ (by kernel_rfl) ?_; clear q_; (repeat (first | with_reducible refine tt ?_ | refine And.intro (by first | with_reducible assumption | kernel_rfl | omega | (simp only [inR, List.length_cons, List.length_nil]; omega)) ?_)))
      rw [strsOf_strPV]
      (show ?g103; have q_ : type_of% (px (G := ?g103) (by (conv => rhs; whnf); (repeat ((first | (apply sgA; with_reducible assumption) | (apply sgT; kernel_rfl) | apply sgP); (conv => rhs; whnf))); exact sgI)) := trivial; refine segM q_ (by kernel_rfl) ?_; clear q_; (repeat (first | with_reducible refine tt ?_ | refine And.intro (by first | with_reducible assumption | kernel_rfl | omega | (simp only [inR, List.length_cons, List.length_nil]; omega)) ?_)))
      exact Eq.mp (by kernel_rfl) h
theorem s285 (B : Bs w h₀) : Sound prog w h₀ 285 10 ct285 := (sd285 (lev := 8) B f285 (consΓ (s277 B) noΓ)).imp t285
end

structure LS where
  b : Array UInt8
  at_ : Int
  spot : Int
  state : Int
  row : Int
noncomputable def lnNs (s : LS) (nm cd : Nat) : AO := .ns [(sn "end_line", I (-1)), (sn "text", .p (.bytes s.b)), (sn "names", .ref nm), (sn "at", I s.at_), (sn "codes", .ref cd), (sn "spot", I s.spot), (sn "state", I s.state), (sn "row", I s.row), (sn "stopped", B' false)]
noncomputable def LH (s : LS) (codes : List Int) (l : List Str) (rows : List Int) : AH :=
  [.inst 377 1, lnNs s 2 6, .inst 187 3, nsN 4 5, .sdict (numsFrom 0 l), .list (strPV l), .list (intPV codes), .inst 235 8, .ns [(sn "rows", .ref 9)], .list (intPV rows)]
noncomputable def UpOk (rows codes : List Int) : Prop := ∀ (p : Nat) (c : Int), codes[p]? = some c → rows[c.toNat]? = some 7 → codes[p + 1]? ≠ some c
structure Good (codes rows : List Int) : Prop where
  len : rows.length = 256
  oct : ∀ c ∈ codes, 0 ≤ c ∧ c ≤ 255
  up : UpOk rows codes
  small : codes.length < 100000
theorem Good.at {codes rows : List Int} (G : Good codes rows) {p : Nat} {c : Int} (h : codes[p]? = some c) : (0 ≤ c ∧ c ≤ 255) ∧ ∃ r, rows[c.toNat]? = some r := by
  have h1 := G.oct c (List.mem_of_getElem? h)
  have := G.len
  exact ⟨h1, _, List.getElem?_eq_getElem (by omega)⟩
section
variable {prog : Program} {w : World} {h₀ : Heap}
noncomputable def U303 : List (Str × SV) := [(sn "len", .raw (.builtin "len"))]
theorem f303 : facts U303 [sn "codes", sn "place"] [] [sn "code", sn "mark"] (tl 36) := ⟨⟨by kernel_rfl, by kernel_rfl⟩, by kernel_rfl⟩
noncomputable def ct303 : CT := fun args H K => ∃ (codes : List Int) (p : Nat) (c : Int), args = [.ref 0, I p] ∧ H = [.list (intPV codes)] ∧ codes.length < 100000 ∧ codes[p]? = some c ∧ codes[p + 1]? ≠ some c ∧ K (.p (.tup [.int c, .int 1])) [.list (intPV codes)]
theorem ixL_nat {codes : List Int} {p : Int} {c : Int} {q : Nat} (hp : p = q) (h : codes[q]? = some c) : ixL p (intPV codes) = some (.int c) := by
  subst hp
  exact ixL_int (by omega) (by simpa using h)
theorem t303 : ∀ args H K, ct303 args H K → ctD 9 [] U303 [sn "codes", sn "place"] [] [sn "code", sn "mark"] (tl 36) [] args H K := by
  rintro args H K ⟨codes, p, c, rfl, rfl, hl, hc, hn, h⟩
  have hp : p < codes.length := (List.getElem?_eq_some_iff.mp hc).1
  have hL := intPV_len codes
  (show ?g104; have q_ : type_of% (px (G := ?g104) (by (conv => rhs; whnf); (repeat ((first | (apply sgA; with_reducible assumption) | (apply sgT; kernel_rfl) | apply sgP); (conv => rhs; whnf))); exact sgI)) := trivial; refine segM q_ (by kernel_rfl) ?_; clear q_; (repeat (first | with_reducible refine tt ?_ | refine And.intro (by first | with_reducible assumption | kernel_rfl | omega | (simp only [inR, List.length_cons, List.length_nil]; omega)) ?_)))
  rw [ixL_nat rfl hc]
  (show ?g105; have q_ : type_of% (px (G := ?g105) (by (conv => rhs; whnf); (repeat ((first | (apply sgA; with_reducible assumption) | (apply sgT; kernel_rfl) | apply sgP); (conv => rhs; whnf))); exact sgI)) := trivial; refine segM q_ (by kernel_rfl) ?_; clear q_; (repeat (first | with_reducible refine tt ?_ | refine And.intro (by first | with_reducible assumption | kernel_rfl | omega | (simp only [inR, List.length_cons, List.length_nil]; omega)) ?_)))
  refine drecG (fun e => ?_) (fun e => ?_)
  · (show ?g106; have q_ : type_of% (px (G := ?g106) (by (conv => rhs; whnf); (repeat ((first | (apply sgA; with_reducible assumption) | (apply sgT; kernel_rfl) | apply sgP); (conv => rhs; whnf))); exact sgI)) := trivial; refine segM q_ (by kernel_rfl) ?_; clear q_; (repeat (first | with_reducible refine tt ?_ | refine And.intro (by first | with_reducible assumption | kernel_rfl | omega | (simp only [inR, List.length_cons, List.length_nil]; omega)) ?_)))
    refine drec (fun _z => ?_) (fun e2 => absurd (e2.symm.trans e) (by decide))
    (show ?g107; have q_ : type_of% (px (G := ?g107) (by (conv => rhs; whnf); (repeat ((first | (apply sgA; with_reducible assumption) | (apply sgT; kernel_rfl) | apply sgP); (conv => rhs; whnf))); exact sgI)) := trivial; refine segM q_ (by kernel_rfl) ?_; clear q_; (repeat (first | with_reducible refine tt ?_ | refine And.intro (by first | with_reducible assumption | kernel_rfl | omega | (simp only [inR, List.length_cons, List.length_nil]; omega)) ?_)))
    exact Eq.mp (by kernel_rfl) h
  · have e1 : p + 2 < codes.length := by
      have e : ¬ (decide (((intPV codes).length : Int) ≤ (p : Int) + 2) = true) := e
      rw [intPV_len] at e
      simp at e; omega
    have hd : codes[p + 1]? = some codes[p + 1] := List.getElem?_eq_getElem (by omega)
    (show ?g108; have q_ : type_of% (px (G := ?g108) (by (conv => rhs; whnf); (repeat ((first | (apply sgA; with_reducible assumption) | (apply sgT; kernel_rfl) | apply sgP); (conv => rhs; whnf))); exact sgI)) := trivial; refine segM q_ (by kernel_rfl) ?_; clear q_; (repeat (first | with_reducible refine tt ?_ | refine And.intro (by first | with_reducible assumption | kernel_rfl | omega | (simp only [inR, List.length_cons, List.length_nil]; omega)) ?_)))
    rw [ixL_nat (q := p + 1) (by push_cast; rfl) hd]
    (show ?g109; have q_ : type_of% (px (G := ?g109) (by (conv => rhs; whnf); (repeat ((first | (apply sgA; with_reducible assumption) | (apply sgT; kernel_rfl) | apply sgP); (conv => rhs; whnf))); exact sgI)) := trivial; refine segM q_ (by kernel_rfl) ?_; clear q_; (repeat (first | with_reducible refine tt ?_ | refine And.intro (by first | with_reducible assumption | kernel_rfl | omega | (simp only [inR, List.length_cons, List.length_nil]; omega)) ?_)))
    refine drecG (fun e => ?_) (fun e => absurd ?_ e)
    · (show ?g110; have q_ : type_of% (px (G := ?g110) (by (conv => rhs; whnf); (repeat ((first | (apply sgA; with_reducible assumption) | (apply sgT; kernel_rfl) | apply sgP); (conv => rhs; whnf))); exact sgI)) := trivial; refine segM q_ (by kernel_rfl) ?_; clear q_; (repeat (first | with_reducible refine tt ?_ | refine And.intro (by first | with_reducible assumption | kernel_rfl | omega | (simp only [inR, List.length_cons, List.length_nil]; omega)) ?_)))
      refine drec (fun _z => ?_) (fun e2 => absurd (e2.symm.trans e) (by decide))
      (show ?g111; have q_ : type_of% (px (G := ?g111) (by (conv => rhs; whnf); (repeat ((first | (apply sgA; with_reducible assumption) | (apply sgT; kernel_rfl) | apply sgP); (conv => rhs; whnf))); exact sgI)) := trivial; refine segM q_ (by kernel_rfl) ?_; clear q_; (repeat (first | with_reducible refine tt ?_ | refine And.intro (by first | with_reducible assumption | kernel_rfl | omega | (simp only [inR, List.length_cons, List.length_nil]; omega)) ?_)))
      exact Eq.mp (by kernel_rfl) h
    · show (!decide (codes[p + 1] = c)) = true
      rw [decide_eq_false (fun q => hn (by rw [hd, q]))]; rfl
theorem s303 (B : Bs w h₀) : Sound prog w h₀ 303 2 ct303 := (sd303 (lev := 0) B f303 noΓ).imp t303
noncomputable def U353 : List (Str × SV) := [(sn "UP", I 7), (sn "written_otherwise", .raw (.ref 303))]
theorem f353 : facts U353 [sn "self", sn "place", sn "cats"] [] [sn "code", sn "category", sn "places"] (cl 37 5) := ⟨⟨by kernel_rfl, by kernel_rfl⟩, by kernel_rfl⟩
noncomputable def ct353 : CT := fun args H K => ∃ (s : LS) (codes : List Int) (l : List Str) (rows : List Int) (p : Nat) (c r : Int), args = [.ref 0, I p, .ref 7] ∧ H = LH s codes l rows ∧ Good codes rows ∧ codes[p]? = some c ∧ rows[c.toNat]? = some r ∧
  K (.p (.tup [.int c, .int r])) (LH s codes l rows)
theorem t353 : ∀ args H K, ct353 args H K → ctD 9 [(225, ct225), (303, ct303)] U353 [sn "self", sn "place", sn "cats"] [] [sn "code", sn "category", sn "places"] (cl 37 5) [] args H K := by
  rintro args H K ⟨s, codes, l, rows, p, c, r, rfl, rfl, G, hc, hr, h⟩
  have hp : p < codes.length := (List.getElem?_eq_some_iff.mp hc).1
  have hs := G.small
  have hL := intPV_len codes
  have hc2 := (G.at hc).1
  (show ?g112; have q_ : type_of% (px (G := ?g112) (by (conv => rhs; whnf); (repeat ((first | (apply sgA; with_reducible assumption) | (apply sgT; kernel_rfl) | apply sgP); (conv => rhs; whnf))); exact sgI)) := trivial; refine segM q_ (by kernel_rfl) ?_; clear q_; (repeat (first | with_reducible refine tt ?_ | refine And.intro (by first | with_reducible assumption | kernel_rfl | omega | (simp only [inR, List.length_cons, List.length_nil]; omega)) ?_)))
  rw [ixL_nat rfl hc]
  (show ?g113; have q_ : type_of% (px (G := ?g113) (by (conv => rhs; whnf); (repeat ((first | (apply sgA; with_reducible assumption) | (apply sgT; kernel_rfl) | apply sgP); (conv => rhs; whnf))); exact sgI)) := trivial; refine segM q_ (by kernel_rfl) ?_; clear q_; (repeat (first | with_reducible refine tt ?_ | refine And.intro (by first | with_reducible assumption | kernel_rfl | omega | (simp only [inR, List.length_cons, List.length_nil]; omega)) ?_)))
  refine ex3 rows c r ⟨by kernel_rfl, by kernel_rfl, hc2, hr, ?_⟩
  (show ?g114; have q_ : type_of% (px (G := ?g114) (by (conv => rhs; whnf); (repeat ((first | (apply sgA; with_reducible assumption) | (apply sgT; kernel_rfl) | apply sgP); (conv => rhs; whnf))); exact sgI)) := trivial; refine segM q_ (by kernel_rfl) ?_; clear q_; (repeat (first | with_reducible refine tt ?_ | refine And.intro (by first | with_reducible assumption | kernel_rfl | omega | (simp only [inR, List.length_cons, List.length_nil]; omega)) ?_)))
  refine ⟨2, ?_⟩
  (show ?g115; have q_ : type_of% (px (G := ?g115) (by (conv => rhs; whnf); (repeat ((first | (apply sgA; with_reducible assumption) | (apply sgT; kernel_rfl) | apply sgP); (conv => rhs; whnf))); exact sgI)) := trivial; refine segM q_ (by kernel_rfl) ?_; clear q_; (repeat (first | with_reducible refine tt ?_ | refine And.intro (by first | with_reducible assumption | kernel_rfl | omega | (simp only [inR, List.length_cons, List.length_nil]; omega)) ?_)))
  refine drec (fun e => ?_) (fun e => ?_)
  · have e : r = 7 := of_decide_eq_true e
    subst e
    (show ?g116; have q_ : type_of% (px (G := ?g116) (by (conv => rhs; whnf); (repeat ((first | (apply sgA; with_reducible assumption) | (apply sgT; kernel_rfl) | apply sgP); (conv => rhs; whnf))); exact sgI)) := trivial; refine segM q_ (by kernel_rfl) ?_; clear q_; (repeat (first | with_reducible refine tt ?_ | refine And.intro (by first | with_reducible assumption | kernel_rfl | omega | (simp only [inR, List.length_cons, List.length_nil]; omega)) ?_)))
    refine ex3 codes p c ⟨by kernel_rfl, by kernel_rfl, hs, hc, G.up p c hc hr, ?_⟩
    (show ?g117; have q_ : type_of% (px (G := ?g117) (by (conv => rhs; whnf); (repeat ((first | (apply sgA; with_reducible assumption) | (apply sgT; kernel_rfl) | apply sgP); (conv => rhs; whnf))); exact sgI)) := trivial; refine segM q_ (by kernel_rfl) ?_; clear q_; (repeat (first | with_reducible refine tt ?_ | refine And.intro (by first | with_reducible assumption | kernel_rfl | omega | (simp only [inR, List.length_cons, List.length_nil]; omega)) ?_)))
    exact Eq.mp (by kernel_rfl) h
  · (show ?g118; have q_ : type_of% (px (G := ?g118) (by (conv => rhs; whnf); (repeat ((first | (apply sgA; with_reducible assumption) | (apply sgT; kernel_rfl) | apply sgP); (conv => rhs; whnf))); exact sgI)) := trivial; refine segM q_ (by kernel_rfl) ?_; clear q_; (repeat (first | with_reducible refine tt ?_ | refine And.intro (by first | with_reducible assumption | kernel_rfl | omega | (simp only [inR, List.length_cons, List.length_nil]; omega)) ?_)))
    exact Eq.mp (by kernel_rfl) h
theorem s353 (B : Bs w h₀) : Sound prog w h₀ 353 6 ct353 := (sd353 (lev := 4) B f353 (consΓ (s225 B) (consΓ ((s303 B).mono (by decide)) noΓ))).imp t353
theorem neF {b : Bool} (h : ¬ b = false) : b = true := by cases b <;> simp_all
noncomputable def strOf (cs : List Int) : Str := ⟨(cs.map Int.toNat).toArray⟩
theorem strOf_snoc (cs : List Int) (c : Int) : strOf cs ++ ch1 c = strOf (cs ++ [c]) := by
  unfold strOf ch1
  show Str.append _ _ = _
  simp [Str.append]
structure Word (codes rows : List Int) (k : Nat) (cs : List Int) (r0 : Int) : Prop where
  ne : 0 < cs.length
  at_ : ∀ i, i < cs.length → codes[k + i]? = cs[i]?
  first : ∃ c, cs[0]? = some c ∧ rows[c.toNat]? = some r0
  rest : (r0 = 11 ∧ (∀ c ∈ cs, rows[c.toNat]? = some 11) ∧ (∀ d, codes[k + cs.length]? = some d → rows[d.toNat]? ≠ some 11)) ∨ (r0 ≠ 11 ∧ cs.length = 1)
  small : cs.length < 100
noncomputable def U374 : List (Str × SV) := [(sn "len", .raw (.builtin "len")), (sn "CONTROL", I 0), (sn "chr", .raw (.builtin "chr")), (sn "LETTER", I 11), (sn "SPACE", I 10), (sn "SKIPPING", I 2), (sn "MIDDLE", I 1)]
theorem f374 : facts U374 [sn "self", sn "cats"] [] [sn "code", sn "category", sn "name", sn "place", sn "going", sn "behind", sn "token"] (cl 37 8) := ⟨⟨by kernel_rfl, by kernel_rfl⟩, by kernel_rfl⟩
noncomputable def ct374 : CT := fun args H K => ∃ (s : LS) (codes : List Int) (l : List Str) (rows : List Int) (k : Nat) (cs : List Int) (r0 : Int), args = [.ref 0, .ref 7] ∧ H = LH s codes l rows ∧ Good codes rows ∧ s.spot = k ∧ Word codes rows k cs r0 ∧ l.length < 900 ∧
  K (.p (.tup [.int 0, .int (numTo (strOf cs) l)])) (LH { s with spot := k + cs.length, state := if r0 = 11 ∨ r0 = 10 then 2 else 1 } codes (numL (strOf cs) l) rows)
theorem take_snoc {cs : List Int} {j : Nat} {c : Int} (h : cs[j]? = some c) : cs.take j ++ [c] = cs.take (j + 1) := by
  rw [List.take_add_one, h]; rfl
theorem t374 : ∀ args H K, ct374 args H K → ctD 14 [(353, ct353), (170, ct170)] U374 [sn "self", sn "cats"] [] [sn "code", sn "category", sn "name", sn "place", sn "going", sn "behind", sn "token"] (cl 37 8) [] args H K := by
  rintro args H K ⟨s, codes, l, rows, k, cs, r0, rfl, rfl, G, hk, W, hl, h⟩
  obtain ⟨b, at_, spot, state, row⟩ := s
  dsimp only at hk
  subst hk
  obtain ⟨c0, hc0, hr0⟩ := W.first
  have hck : codes[k]? = some c0 := by rw [← hc0, ← W.at_ 0 W.ne]; simp
  have hne := W.ne
  have hkl : k + cs.length ≤ codes.length := by
    have h1 := W.at_ (cs.length - 1) (by omega)
    rw [List.getElem?_eq_getElem (show cs.length - 1 < cs.length by omega)] at h1
    have h2 := (List.getElem?_eq_some_iff.mp h1).1
    omega
  have hs := G.small
  have hL := intPV_len codes
  have hc2 := (G.at hck).1
  (show ?g119; have q_ : type_of% (px (G := ?g119) (by (conv => rhs; whnf); (repeat ((first | (apply sgA; with_reducible assumption) | (apply sgT; kernel_rfl) | apply sgP); (conv => rhs; whnf))); exact sgI)) := trivial; refine segM q_ (by kernel_rfl) ?_; clear q_; (repeat (first | with_reducible refine tt ?_ | refine And.intro (by first | with_reducible assumption | kernel_rfl | omega | (simp only [inR, List.length_cons, List.length_nil]; omega)) ?_)))
  refine drec (fun e => absurd (of_decide_eq_true (show decide (((intPV codes).length : Int) ≤ (k : Int)) = true from e)) (by omega)) (fun _z => ?_)
  (show ?g120; have q_ : type_of% (px (G := ?g120) (by (conv => rhs; whnf); (repeat ((first | (apply sgA; with_reducible assumption) | (apply sgT; kernel_rfl) | apply sgP); (conv => rhs; whnf))); exact sgI)) := trivial; refine segM q_ (by kernel_rfl) ?_; clear q_; (repeat (first | with_reducible refine tt ?_ | refine And.intro (by first | with_reducible assumption | kernel_rfl | omega | (simp only [inR, List.length_cons, List.length_nil]; omega)) ?_)))
  refine ex7 ⟨b, at_, k, state, row⟩ codes l rows k c0 r0 ⟨by kernel_rfl, by kernel_rfl, G, hck, hr0, ?_⟩
  (show ?g121; have q_ : type_of% (px (G := ?g121) (by (conv => rhs; whnf); (repeat ((first | (apply sgA; with_reducible assumption) | (apply sgT; kernel_rfl) | apply sgP); (conv => rhs; whnf))); exact sgI)) := trivial; refine segM q_ (by kernel_rfl) ?_; clear q_; (repeat (first | with_reducible refine tt ?_ | refine And.intro (by first | with_reducible assumption | kernel_rfl | omega | (simp only [inR, List.length_cons, List.length_nil]; omega)) ?_)))
  refine ⟨cs.length + 1, ?_⟩
  refine whileK_ind2 (fun m vars H => H = LH ⟨b, at_, k, state, row⟩ codes l rows ∧ ∃ (j : Nat) (g : Bool) (cd : Int), 1 ≤ j ∧ j ≤ cs.length ∧ ((g = true ∧ r0 = 11 ∧ cs.length + 1 ≤ m + j) ∨ (g = false ∧ j = cs.length)) ∧
      vars = [(sn "self", .ref 0), (sn "cats", .ref 7), (sn "code", I cd), (sn "category", I r0), (sn "name", T' (strOf (cs.take j))), (sn "place", I (k + j)), (sn "going", B' g)])
    (fun vars H => H = LH ⟨b, at_, k, state, row⟩ codes l rows ∧ ∃ (g : Bool) (cd : Int), vars = [(sn "self", .ref 0), (sn "cats", .ref 7), (sn "code", I cd), (sn "category", I r0), (sn "name", T' (strOf cs)), (sn "place", I (k + cs.length)), (sn "going", B' g)]) ?_ ?_ ?_ _ _ _ ?_
  · rintro m vars H Kt Ke ⟨rfl, j, g, cd, hj1, hj2, hg, hv⟩ hk he
    have exit : j = cs.length → Ke .nx vars (LH ⟨b, at_, k, state, row⟩ codes l rows) := fun q => by
      subst q
      rw [List.take_length] at hv
      exact he _ _ ⟨rfl, g, cd, hv⟩
    cases g with
    | false =>
      have hj : j = cs.length := hg.elim (fun q => by cases q.1) fun q => q.2
      have ex := exit hj
      subst hv
      (show ?g122; have q_ : type_of% (px (G := ?g122) (by (conv => rhs; whnf); (repeat ((first | (apply sgA; with_reducible assumption) | (apply sgT; kernel_rfl) | apply sgP); (conv => rhs; whnf))); exact sgI)) := trivial; refine segM q_ (by kernel_rfl) ?_; clear q_; (repeat (first | with_reducible refine tt ?_ | refine And.intro (by first | with_reducible assumption | kernel_rfl | omega | (simp only [inR, List.length_cons, List.length_nil]; omega)) ?_)))
      exact Eq.mp (by kernel_rfl) ex
    | true =>
      obtain ⟨_, h11, hm⟩ := hg.elim id fun q => by cases q.1
      obtain ⟨_, Wl, We⟩ := W.rest.elim id fun q => absurd h11 q.1
      have main : ∀ d r, codes[k + j]? = some d → rows[d.toNat]? = some r → (r = 11 → j < cs.length ∧ cs[j]? = some d) ∧ (r ≠ 11 → j = cs.length) := fun d r hd hr => by
        by_cases q : j < cs.length
        · have h1 := W.at_ j q
          rw [hd] at h1
          have h2 := Wl d (List.mem_of_getElem? h1.symm)
          rw [hr] at h2
          exact ⟨fun _z => ⟨q, h1.symm⟩, fun z => absurd (Option.some.inj h2) z⟩
        · have : j = cs.length := by omega
          subst this
          exact ⟨fun z => absurd (by rw [hr, z]) (We d hd), fun _z => rfl⟩
      have Wsm := W.small
      have nl : (strOf (cs.take j)).length < 1000 := by
        show ((cs.take j).map Int.toNat).toArray.size < 1000
        simp; omega
      subst hv
      (show ?g123; have q_ : type_of% (px (G := ?g123) (by (conv => rhs; whnf); (repeat ((first | (apply sgA; with_reducible assumption) | (apply sgT; kernel_rfl) | apply sgP); (conv => rhs; whnf))); exact sgI)) := trivial; refine segM q_ (by kernel_rfl) ?_; clear q_; (repeat (first | with_reducible refine tt ?_ | refine And.intro (by first | with_reducible assumption | kernel_rfl | omega | (simp only [inR, List.length_cons, List.length_nil]; omega)) ?_)))
      refine drecG (fun e => ?_) (fun e => ?_)
      · have e : decide ((k : Int) + j < ((intPV codes).length : Int)) = false := e
        have hj : j = cs.length := by
          have := of_decide_eq_false e
          omega
        have ex := exit hj
        (show ?g124; have q_ : type_of% (px (G := ?g124) (by (conv => rhs; whnf); (repeat ((first | (apply sgA; with_reducible assumption) | (apply sgT; kernel_rfl) | apply sgP); (conv => rhs; whnf))); exact sgI)) := trivial; refine segM q_ (by kernel_rfl) ?_; clear q_; (repeat (first | with_reducible refine tt ?_ | refine And.intro (by first | with_reducible assumption | kernel_rfl | omega | (simp only [inR, List.length_cons, List.length_nil]; omega)) ?_)))
        refine drec (fun e2 => absurd (e.symm.trans e2) (by decide)) (fun _z => ?_)
        exact Eq.mp (by kernel_rfl) ex
      · have e : decide ((k : Int) + j < ((intPV codes).length : Int)) = true := neF (show ¬ decide ((k : Int) + j < ((intPV codes).length : Int)) = false from e)
        have hlt : k + j < codes.length := by have := of_decide_eq_true e; omega
        obtain ⟨d, hd⟩ : ∃ d, codes[k + j]? = some d := ⟨_, List.getElem?_eq_getElem hlt⟩
        obtain ⟨hd2, r, hr⟩ := G.at hd
        have mn := main d r hd hr
        (show ?g125; have q_ : type_of% (px (G := ?g125) (by (conv => rhs; whnf); (repeat ((first | (apply sgA; with_reducible assumption) | (apply sgT; kernel_rfl) | apply sgP); (conv => rhs; whnf))); exact sgI)) := trivial; refine segM q_ (by kernel_rfl) ?_; clear q_; (repeat (first | with_reducible refine tt ?_ | refine And.intro (by first | with_reducible assumption | kernel_rfl | omega | (simp only [inR, List.length_cons, List.length_nil]; omega)) ?_)))
        refine ex7 ⟨b, at_, k, state, row⟩ codes l rows (k + j) d r ⟨by kernel_rfl, by kernel_rfl, G, hd, hr, ?_⟩
        (show ?g126; have q_ : type_of% (px (G := ?g126) (by (conv => rhs; whnf); (repeat ((first | (apply sgA; with_reducible assumption) | (apply sgT; kernel_rfl) | apply sgP); (conv => rhs; whnf))); exact sgI)) := trivial; refine segM q_ (by kernel_rfl) ?_; clear q_; (repeat (first | with_reducible refine tt ?_ | refine And.intro (by first | with_reducible assumption | kernel_rfl | omega | (simp only [inR, List.length_cons, List.length_nil]; omega)) ?_)))
        refine drec (fun e2 => ?_) (fun e2 => ?_)
        · obtain ⟨q1, q2⟩ := mn.1 (of_decide_eq_true e2)
          (show ?g127; have q_ : type_of% (px (G := ?g127) (by (conv => rhs; whnf); (repeat ((first | (apply sgA; with_reducible assumption) | (apply sgT; kernel_rfl) | apply sgP); (conv => rhs; whnf))); exact sgI)) := trivial; refine segM q_ (by kernel_rfl) ?_; clear q_; (repeat (first | with_reducible refine tt ?_ | refine And.intro (by first | with_reducible assumption | kernel_rfl | omega | (simp only [inR, List.length_cons, List.length_nil]; omega)) ?_)))
          refine ⟨Nat.le_trans (show (strOf (cs.take j)).length + 1 ≤ 1000 by omega) (by decide), ?_⟩
          (show ?g128; have q_ : type_of% (px (G := ?g128) (by (conv => rhs; whnf); (repeat ((first | (apply sgA; with_reducible assumption) | (apply sgT; kernel_rfl) | apply sgP); (conv => rhs; whnf))); exact sgI)) := trivial; refine segM q_ (by kernel_rfl) ?_; clear q_; (repeat (first | with_reducible refine tt ?_ | refine And.intro (by first | with_reducible assumption | kernel_rfl | omega | (simp only [inR, List.length_cons, List.length_nil]; omega)) ?_)))
          refine hk (m - 1) _ _ (by omega) ⟨by kernel_rfl, j + 1, decide (r = 11), d, by omega, by omega, .inl ⟨e2, h11, by omega⟩, ?_⟩
          rw [← take_snoc q2, ← strOf_snoc]
          kernel_rfl
        · have q := mn.2 (of_decide_eq_false e2)
          (show ?g129; have q_ : type_of% (px (G := ?g129) (by (conv => rhs; whnf); (repeat ((first | (apply sgA; with_reducible assumption) | (apply sgT; kernel_rfl) | apply sgP); (conv => rhs; whnf))); exact sgI)) := trivial; refine segM q_ (by kernel_rfl) ?_; clear q_; (repeat (first | with_reducible refine tt ?_ | refine And.intro (by first | with_reducible assumption | kernel_rfl | omega | (simp only [inR, List.length_cons, List.length_nil]; omega)) ?_)))
          refine hk 0 _ _ (by omega) ⟨by kernel_rfl, j, decide (r = 11), d, by omega, by omega, .inr ⟨e2, q⟩, by kernel_rfl⟩
  · rintro m m' vars H hm ⟨h1, j, g, cd, hj1, hj2, hg, hv⟩
    exact ⟨h1, j, g, cd, hj1, hj2, hg.imp (fun q => ⟨q.1, q.2.1, by omega⟩) id, hv⟩
  · rintro vars H ⟨rfl, g, cd, hv⟩
    have okt : okText (strOf cs) := by
      intro c hc
      have hc : c ∈ cs.map Int.toNat := by simpa [strOf] using hc
      obtain ⟨d, hd, rfl⟩ := List.mem_map.mp hc
      obtain ⟨i, hi, rfl⟩ := List.getElem_of_mem hd
      have h1 := W.at_ i hi
      rw [List.getElem?_eq_getElem hi] at h1
      have := G.oct _ (List.mem_of_getElem? h1)
      omega
    by_cases q11 : r0 = 11
    · subst q11
      rw [if_pos (.inl rfl)] at h
      subst hv
      (show ?g130; have q_ : type_of% (px (G := ?g130) (by (conv => rhs; whnf); (repeat ((first | (apply sgA; with_reducible assumption) | (apply sgT; kernel_rfl) | apply sgP); (conv => rhs; whnf))); exact sgI)) := trivial; refine segM q_ (by kernel_rfl) ?_; clear q_; (repeat (first | with_reducible refine tt ?_ | refine And.intro (by first | with_reducible assumption | kernel_rfl | omega | (simp only [inR, List.length_cons, List.length_nil]; omega)) ?_)))
      refine ex2 l (strOf cs) ⟨by kernel_rfl, by kernel_rfl, okt, by omega, ?_⟩
      (show ?g131; have q_ : type_of% (px (G := ?g131) (by (conv => rhs; whnf); (repeat ((first | (apply sgA; with_reducible assumption) | (apply sgT; kernel_rfl) | apply sgP); (conv => rhs; whnf))); exact sgI)) := trivial; refine segM q_ (by kernel_rfl) ?_; clear q_; (repeat (first | with_reducible refine tt ?_ | refine And.intro (by first | with_reducible assumption | kernel_rfl | omega | (simp only [inR, List.length_cons, List.length_nil]; omega)) ?_)))
      exact Eq.mp (by kernel_rfl) h
    · by_cases q10 : r0 = 10
      · subst q10
        rw [if_pos (.inr rfl)] at h
        subst hv
        (show ?g132; have q_ : type_of% (px (G := ?g132) (by (conv => rhs; whnf); (repeat ((first | (apply sgA; with_reducible assumption) | (apply sgT; kernel_rfl) | apply sgP); (conv => rhs; whnf))); exact sgI)) := trivial; refine segM q_ (by kernel_rfl) ?_; clear q_; (repeat (first | with_reducible refine tt ?_ | refine And.intro (by first | with_reducible assumption | kernel_rfl | omega | (simp only [inR, List.length_cons, List.length_nil]; omega)) ?_)))
        refine ex2 l (strOf cs) ⟨by kernel_rfl, by kernel_rfl, okt, by omega, ?_⟩
        (show ?g133; have q_ : type_of% (px (G := ?g133) (by (conv => rhs; whnf); (repeat ((first | (apply sgA; with_reducible assumption) | (apply sgT; kernel_rfl) | apply sgP); (conv => rhs; whnf))); exact sgI)) := trivial; refine segM q_ (by kernel_rfl) ?_; clear q_; (repeat (first | with_reducible refine tt ?_ | refine And.intro (by first | with_reducible assumption | kernel_rfl | omega | (simp only [inR, List.length_cons, List.length_nil]; omega)) ?_)))
        exact Eq.mp (by kernel_rfl) h
      · rw [if_neg (fun q => q.elim q11 q10)] at h
        subst hv
        (show ?g134; have q_ : type_of% (px (G := ?g134) (by (conv => rhs; whnf); (repeat ((first | (apply sgA; with_reducible assumption) | (apply sgT; kernel_rfl) | apply sgP); (conv => rhs; whnf))); exact sgI)) := trivial; refine segM q_ (by kernel_rfl) ?_; clear q_; (repeat (first | with_reducible refine tt ?_ | refine And.intro (by first | with_reducible assumption | kernel_rfl | omega | (simp only [inR, List.length_cons, List.length_nil]; omega)) ?_)))
        refine ex2 l (strOf cs) ⟨by kernel_rfl, by kernel_rfl, okt, by omega, ?_⟩
        (show ?g135; have q_ : type_of% (px (G := ?g135) (by (conv => rhs; whnf); (repeat ((first | (apply sgA; with_reducible assumption) | (apply sgT; kernel_rfl) | apply sgP); (conv => rhs; whnf))); exact sgI)) := trivial; refine segM q_ (by kernel_rfl) ?_; clear q_; (repeat (first | with_reducible refine tt ?_ | refine And.intro (by first | with_reducible assumption | kernel_rfl | omega | (simp only [inR, List.length_cons, List.length_nil]; omega)) ?_)))
        refine drecG (fun e => absurd (of_decide_eq_true e) q11) (fun _z => ?_)
        (show ?g136; have q_ : type_of% (px (G := ?g136) (by (conv => rhs; whnf); (repeat ((first | (apply sgA; with_reducible assumption) | (apply sgT; kernel_rfl) | apply sgP); (conv => rhs; whnf))); exact sgI)) := trivial; refine segM q_ (by kernel_rfl) ?_; clear q_; (repeat (first | with_reducible refine tt ?_ | refine And.intro (by first | with_reducible assumption | kernel_rfl | omega | (simp only [inR, List.length_cons, List.length_nil]; omega)) ?_)))
        refine drecG (fun e => absurd (of_decide_eq_true e) q10) (fun _z => ?_)
        (show ?g137; have q_ : type_of% (px (G := ?g137) (by (conv => rhs; whnf); (repeat ((first | (apply sgA; with_reducible assumption) | (apply sgT; kernel_rfl) | apply sgP); (conv => rhs; whnf))); exact sgI)) := trivial; refine segM q_ (by kernel_rfl) ?_; clear q_; (repeat (first | with_reducible refine tt ?_ | refine And.intro (by first | with_reducible assumption | kernel_rfl | omega | (simp only [inR, List.length_cons, List.length_nil]; omega)) ?_)))
        exact Eq.mp (by kernel_rfl) h
  · have one : strOf (cs.take 1) = ch1 c0 := by
      obtain ⟨x, r, rfl⟩ : ∃ x r, cs = x :: r := by
        match cs, hne with
        | x :: r, _ => exact ⟨x, r, rfl⟩
      simp at hc0
      subst hc0
      rfl
    refine ⟨by kernel_rfl, 1, decide (r0 = 11), c0, by omega, by omega, ?_, ?_⟩
    · rcases W.rest with ⟨q, _⟩ | ⟨q1, q2⟩
      · exact .inl ⟨by simp [q], q, by omega⟩
      · exact .inr ⟨by simp [q1], q2.symm⟩
    · rw [one]
      kernel_rfl
theorem s374 (B : Bs w h₀) : Sound prog w h₀ 374 8 ct374 := (sd374 (lev := 6) B f374 (consΓ (s353 B) (consΓ (s170 B) noΓ))).imp t374
end

section
variable {prog : Program} {w : World} {h₀ : Heap}
noncomputable def U360 : List (Str × SV) := [(sn "INVALID", I 15), (sn "COMMENT", I 14), (sn "RETURN", I 5), (sn "ESCAPE", I 0), (sn "IGNORED", I 9), (sn "SPACE", I 10), (sn "MIDDLE", I 1), (sn "SKIPPING", I 2)]
theorem f360 : facts U360 [sn "self", sn "cats"] [] [sn "code", sn "category"] (cl 37 6) := ⟨⟨by kernel_rfl, by kernel_rfl⟩, by kernel_rfl⟩
noncomputable def plains : List Int := [1, 2, 3, 4, 6, 7, 8, 11, 12, 13]
inductive StepR (rows codes : List Int) (l : List Str) (k : Nat) (st : Int) : SV → List Str → Nat → Int → Prop
  | blank {c : Int} : codes[k]? = some c → rows[c.toNat]? = some 10 → st ≠ 1 → StepR rows codes l k st (.p .none) l (k + 1) st
  | space {c : Int} : codes[k]? = some c → rows[c.toNat]? = some 10 → st = 1 → StepR rows codes l k st (.p (tokPV (10, 32))) l (k + 1) 2
  | char {c r : Int} : codes[k]? = some c → rows[c.toNat]? = some r → r ∈ plains → StepR rows codes l k st (.p (tokPV (r, c))) l (k + 1) 1
  | word {c : Int} {cs : List Int} {r0 : Int} : codes[k]? = some c → rows[c.toNat]? = some 0 → Word codes rows (k + 1) cs r0 → l.length < 900 →
      StepR rows codes l k st (.p (tokPV (0, numTo (strOf cs) l))) (numL (strOf cs) l) (k + 1 + cs.length) (if r0 = 11 ∨ r0 = 10 then 2 else 1)
noncomputable def ct360 : CT := fun args H K => ∃ (s : LS) (codes : List Int) (l : List Str) (rows : List Int) (k : Nat) (v : SV) (l' : List Str) (k' : Nat) (st' : Int), args = [.ref 0, .ref 7] ∧ H = LH s codes l rows ∧ Good codes rows ∧ s.spot = k ∧
  StepR rows codes l k s.state v l' k' st' ∧ K v (LH { s with spot := k', state := st' } codes l' rows)
theorem t360 : ∀ args H K, ct360 args H K → ctD 14 [(353, ct353), (374, ct374)] U360 [sn "self", sn "cats"] [] [sn "code", sn "category"] (cl 37 6) [] args H K := by
  rintro args H K ⟨s, codes, l, rows, k, v, l', k', st', rfl, rfl, G, hk, R, h⟩
  obtain ⟨b, at_, spot, state, row⟩ := s
  dsimp only at hk R
  subst hk
  cases R with
  | @blank c hc hr hst =>
    have hlt : k < codes.length := (List.getElem?_eq_some_iff.mp hc).1
    (show ?g138; have q_ : type_of% (px (G := ?g138) (by (conv => rhs; whnf); (repeat ((first | (apply sgA; with_reducible assumption) | (apply sgT; kernel_rfl) | apply sgP); (conv => rhs; whnf))); exact sgI)) := trivial; refine segM q_ (by kernel_rfl) ?_; clear q_; (repeat (first | with_reducible refine tt ?_ | refine And.intro (by first | with_reducible assumption | kernel_rfl | omega | (simp only [inR, List.length_cons, List.length_nil]; omega)) ?_)))
    refine ex7 ⟨b, at_, k, st', row⟩ codes l rows k c 10 ⟨by kernel_rfl, by kernel_rfl, G, hc, hr, ?_⟩
    (show ?g139; have q_ : type_of% (px (G := ?g139) (by (conv => rhs; whnf); (repeat ((first | (apply sgA; with_reducible assumption) | (apply sgT; kernel_rfl) | apply sgP); (conv => rhs; whnf))); exact sgI)) := trivial; refine segM q_ (by kernel_rfl) ?_; clear q_; (repeat (first | with_reducible refine tt ?_ | refine And.intro (by first | with_reducible assumption | kernel_rfl | omega | (simp only [inR, List.length_cons, List.length_nil]; omega)) ?_)))
    refine drec (fun _z => ?_) (fun e => absurd (show (!decide (st' = 1)) = false from e) (by simp [hst]))
    (show ?g140; have q_ : type_of% (px (G := ?g140) (by (conv => rhs; whnf); (repeat ((first | (apply sgA; with_reducible assumption) | (apply sgT; kernel_rfl) | apply sgP); (conv => rhs; whnf))); exact sgI)) := trivial; refine segM q_ (by kernel_rfl) ?_; clear q_; (repeat (first | with_reducible refine tt ?_ | refine And.intro (by first | with_reducible assumption | kernel_rfl | omega | (simp only [inR, List.length_cons, List.length_nil]; omega)) ?_)))
    exact Eq.mp (by kernel_rfl) h
  | @space c hc hr hst =>
    subst hst
    (show ?g141; have q_ : type_of% (px (G := ?g141) (by (conv => rhs; whnf); (repeat ((first | (apply sgA; with_reducible assumption) | (apply sgT; kernel_rfl) | apply sgP); (conv => rhs; whnf))); exact sgI)) := trivial; refine segM q_ (by kernel_rfl) ?_; clear q_; (repeat (first | with_reducible refine tt ?_ | refine And.intro (by first | with_reducible assumption | kernel_rfl | omega | (simp only [inR, List.length_cons, List.length_nil]; omega)) ?_)))
    refine ex7 ⟨b, at_, k, 1, row⟩ codes l rows k c 10 ⟨by kernel_rfl, by kernel_rfl, G, hc, hr, ?_⟩
    (show ?g142; have q_ : type_of% (px (G := ?g142) (by (conv => rhs; whnf); (repeat ((first | (apply sgA; with_reducible assumption) | (apply sgT; kernel_rfl) | apply sgP); (conv => rhs; whnf))); exact sgI)) := trivial; refine segM q_ (by kernel_rfl) ?_; clear q_; (repeat (first | with_reducible refine tt ?_ | refine And.intro (by first | with_reducible assumption | kernel_rfl | omega | (simp only [inR, List.length_cons, List.length_nil]; omega)) ?_)))
    exact Eq.mp (by kernel_rfl) h
  | @char c r hc hr hp =>
    simp only [plains, List.mem_cons, List.not_mem_nil, or_false] at hp
    rcases hp with rfl | rfl | rfl | rfl | rfl | rfl | rfl | rfl | rfl | rfl
    · (show ?g143; have q_ : type_of% (px (G := ?g143) (by (conv => rhs; whnf); (repeat ((first | (apply sgA; with_reducible assumption) | (apply sgT; kernel_rfl) | apply sgP); (conv => rhs; whnf))); exact sgI)) := trivial; refine segM q_ (by kernel_rfl) ?_; clear q_; (repeat (first | with_reducible refine tt ?_ | refine And.intro (by first | with_reducible assumption | kernel_rfl | omega | (simp only [inR, List.length_cons, List.length_nil]; omega)) ?_)))
      refine ex7 ⟨b, at_, k, state, row⟩ codes l rows k c _ ⟨by kernel_rfl, by kernel_rfl, G, hc, hr, ?_⟩
      (show ?g144; have q_ : type_of% (px (G := ?g144) (by (conv => rhs; whnf); (repeat ((first | (apply sgA; with_reducible assumption) | (apply sgT; kernel_rfl) | apply sgP); (conv => rhs; whnf))); exact sgI)) := trivial; refine segM q_ (by kernel_rfl) ?_; clear q_; (repeat (first | with_reducible refine tt ?_ | refine And.intro (by first | with_reducible assumption | kernel_rfl | omega | (simp only [inR, List.length_cons, List.length_nil]; omega)) ?_)))
      exact Eq.mp (by kernel_rfl) h
    · (show ?g145; have q_ : type_of% (px (G := ?g145) (by (conv => rhs; whnf); (repeat ((first | (apply sgA; with_reducible assumption) | (apply sgT; kernel_rfl) | apply sgP); (conv => rhs; whnf))); exact sgI)) := trivial; refine segM q_ (by kernel_rfl) ?_; clear q_; (repeat (first | with_reducible refine tt ?_ | refine And.intro (by first | with_reducible assumption | kernel_rfl | omega | (simp only [inR, List.length_cons, List.length_nil]; omega)) ?_)))
      refine ex7 ⟨b, at_, k, state, row⟩ codes l rows k c _ ⟨by kernel_rfl, by kernel_rfl, G, hc, hr, ?_⟩
      (show ?g146; have q_ : type_of% (px (G := ?g146) (by (conv => rhs; whnf); (repeat ((first | (apply sgA; with_reducible assumption) | (apply sgT; kernel_rfl) | apply sgP); (conv => rhs; whnf))); exact sgI)) := trivial; refine segM q_ (by kernel_rfl) ?_; clear q_; (repeat (first | with_reducible refine tt ?_ | refine And.intro (by first | with_reducible assumption | kernel_rfl | omega | (simp only [inR, List.length_cons, List.length_nil]; omega)) ?_)))
      exact Eq.mp (by kernel_rfl) h
    · (show ?g147; have q_ : type_of% (px (G := ?g147) (by (conv => rhs; whnf); (repeat ((first | (apply sgA; with_reducible assumption) | (apply sgT; kernel_rfl) | apply sgP); (conv => rhs; whnf))); exact sgI)) := trivial; refine segM q_ (by kernel_rfl) ?_; clear q_; (repeat (first | with_reducible refine tt ?_ | refine And.intro (by first | with_reducible assumption | kernel_rfl | omega | (simp only [inR, List.length_cons, List.length_nil]; omega)) ?_)))
      refine ex7 ⟨b, at_, k, state, row⟩ codes l rows k c _ ⟨by kernel_rfl, by kernel_rfl, G, hc, hr, ?_⟩
      (show ?g148; have q_ : type_of% (px (G := ?g148) (by (conv => rhs; whnf); (repeat ((first | (apply sgA; with_reducible assumption) | (apply sgT; kernel_rfl) | apply sgP); (conv => rhs; whnf))); exact sgI)) := trivial; refine segM q_ (by kernel_rfl) ?_; clear q_; (repeat (first | with_reducible refine tt ?_ | refine And.intro (by first | with_reducible assumption | kernel_rfl | omega | (simp only [inR, List.length_cons, List.length_nil]; omega)) ?_)))
      exact Eq.mp (by kernel_rfl) h
    · (show ?g149; have q_ : type_of% (px (G := ?g149) (by (conv => rhs; whnf); (repeat ((first | (apply sgA; with_reducible assumption) | (apply sgT; kernel_rfl) | apply sgP); (conv => rhs; whnf))); exact sgI)) := trivial; refine segM q_ (by kernel_rfl) ?_; clear q_; (repeat (first | with_reducible refine tt ?_ | refine And.intro (by first | with_reducible assumption | kernel_rfl | omega | (simp only [inR, List.length_cons, List.length_nil]; omega)) ?_)))
      refine ex7 ⟨b, at_, k, state, row⟩ codes l rows k c _ ⟨by kernel_rfl, by kernel_rfl, G, hc, hr, ?_⟩
      (show ?g150; have q_ : type_of% (px (G := ?g150) (by (conv => rhs; whnf); (repeat ((first | (apply sgA; with_reducible assumption) | (apply sgT; kernel_rfl) | apply sgP); (conv => rhs; whnf))); exact sgI)) := trivial; refine segM q_ (by kernel_rfl) ?_; clear q_; (repeat (first | with_reducible refine tt ?_ | refine And.intro (by first | with_reducible assumption | kernel_rfl | omega | (simp only [inR, List.length_cons, List.length_nil]; omega)) ?_)))
      exact Eq.mp (by kernel_rfl) h
    · (show ?g151; have q_ : type_of% (px (G := ?g151) (by (conv => rhs; whnf); (repeat ((first | (apply sgA; with_reducible assumption) | (apply sgT; kernel_rfl) | apply sgP); (conv => rhs; whnf))); exact sgI)) := trivial; refine segM q_ (by kernel_rfl) ?_; clear q_; (repeat (first | with_reducible refine tt ?_ | refine And.intro (by first | with_reducible assumption | kernel_rfl | omega | (simp only [inR, List.length_cons, List.length_nil]; omega)) ?_)))
      refine ex7 ⟨b, at_, k, state, row⟩ codes l rows k c _ ⟨by kernel_rfl, by kernel_rfl, G, hc, hr, ?_⟩
      (show ?g152; have q_ : type_of% (px (G := ?g152) (by (conv => rhs; whnf); (repeat ((first | (apply sgA; with_reducible assumption) | (apply sgT; kernel_rfl) | apply sgP); (conv => rhs; whnf))); exact sgI)) := trivial; refine segM q_ (by kernel_rfl) ?_; clear q_; (repeat (first | with_reducible refine tt ?_ | refine And.intro (by first | with_reducible assumption | kernel_rfl | omega | (simp only [inR, List.length_cons, List.length_nil]; omega)) ?_)))
      exact Eq.mp (by kernel_rfl) h
    · (show ?g153; have q_ : type_of% (px (G := ?g153) (by (conv => rhs; whnf); (repeat ((first | (apply sgA; with_reducible assumption) | (apply sgT; kernel_rfl) | apply sgP); (conv => rhs; whnf))); exact sgI)) := trivial; refine segM q_ (by kernel_rfl) ?_; clear q_; (repeat (first | with_reducible refine tt ?_ | refine And.intro (by first | with_reducible assumption | kernel_rfl | omega | (simp only [inR, List.length_cons, List.length_nil]; omega)) ?_)))
      refine ex7 ⟨b, at_, k, state, row⟩ codes l rows k c _ ⟨by kernel_rfl, by kernel_rfl, G, hc, hr, ?_⟩
      (show ?g154; have q_ : type_of% (px (G := ?g154) (by (conv => rhs; whnf); (repeat ((first | (apply sgA; with_reducible assumption) | (apply sgT; kernel_rfl) | apply sgP); (conv => rhs; whnf))); exact sgI)) := trivial; refine segM q_ (by kernel_rfl) ?_; clear q_; (repeat (first | with_reducible refine tt ?_ | refine And.intro (by first | with_reducible assumption | kernel_rfl | omega | (simp only [inR, List.length_cons, List.length_nil]; omega)) ?_)))
      exact Eq.mp (by kernel_rfl) h
    · (show ?g155; have q_ : type_of% (px (G := ?g155) (by (conv => rhs; whnf); (repeat ((first | (apply sgA; with_reducible assumption) | (apply sgT; kernel_rfl) | apply sgP); (conv => rhs; whnf))); exact sgI)) := trivial; refine segM q_ (by kernel_rfl) ?_; clear q_; (repeat (first | with_reducible refine tt ?_ | refine And.intro (by first | with_reducible assumption | kernel_rfl | omega | (simp only [inR, List.length_cons, List.length_nil]; omega)) ?_)))
      refine ex7 ⟨b, at_, k, state, row⟩ codes l rows k c _ ⟨by kernel_rfl, by kernel_rfl, G, hc, hr, ?_⟩
      (show ?g156; have q_ : type_of% (px (G := ?g156) (by (conv => rhs; whnf); (repeat ((first | (apply sgA; with_reducible assumption) | (apply sgT; kernel_rfl) | apply sgP); (conv => rhs; whnf))); exact sgI)) := trivial; refine segM q_ (by kernel_rfl) ?_; clear q_; (repeat (first | with_reducible refine tt ?_ | refine And.intro (by first | with_reducible assumption | kernel_rfl | omega | (simp only [inR, List.length_cons, List.length_nil]; omega)) ?_)))
      exact Eq.mp (by kernel_rfl) h
    · (show ?g157; have q_ : type_of% (px (G := ?g157) (by (conv => rhs; whnf); (repeat ((first | (apply sgA; with_reducible assumption) | (apply sgT; kernel_rfl) | apply sgP); (conv => rhs; whnf))); exact sgI)) := trivial; refine segM q_ (by kernel_rfl) ?_; clear q_; (repeat (first | with_reducible refine tt ?_ | refine And.intro (by first | with_reducible assumption | kernel_rfl | omega | (simp only [inR, List.length_cons, List.length_nil]; omega)) ?_)))
      refine ex7 ⟨b, at_, k, state, row⟩ codes l rows k c _ ⟨by kernel_rfl, by kernel_rfl, G, hc, hr, ?_⟩
      (show ?g158; have q_ : type_of% (px (G := ?g158) (by (conv => rhs; whnf); (repeat ((first | (apply sgA; with_reducible assumption) | (apply sgT; kernel_rfl) | apply sgP); (conv => rhs; whnf))); exact sgI)) := trivial; refine segM q_ (by kernel_rfl) ?_; clear q_; (repeat (first | with_reducible refine tt ?_ | refine And.intro (by first | with_reducible assumption | kernel_rfl | omega | (simp only [inR, List.length_cons, List.length_nil]; omega)) ?_)))
      exact Eq.mp (by kernel_rfl) h
    · (show ?g159; have q_ : type_of% (px (G := ?g159) (by (conv => rhs; whnf); (repeat ((first | (apply sgA; with_reducible assumption) | (apply sgT; kernel_rfl) | apply sgP); (conv => rhs; whnf))); exact sgI)) := trivial; refine segM q_ (by kernel_rfl) ?_; clear q_; (repeat (first | with_reducible refine tt ?_ | refine And.intro (by first | with_reducible assumption | kernel_rfl | omega | (simp only [inR, List.length_cons, List.length_nil]; omega)) ?_)))
      refine ex7 ⟨b, at_, k, state, row⟩ codes l rows k c _ ⟨by kernel_rfl, by kernel_rfl, G, hc, hr, ?_⟩
      (show ?g160; have q_ : type_of% (px (G := ?g160) (by (conv => rhs; whnf); (repeat ((first | (apply sgA; with_reducible assumption) | (apply sgT; kernel_rfl) | apply sgP); (conv => rhs; whnf))); exact sgI)) := trivial; refine segM q_ (by kernel_rfl) ?_; clear q_; (repeat (first | with_reducible refine tt ?_ | refine And.intro (by first | with_reducible assumption | kernel_rfl | omega | (simp only [inR, List.length_cons, List.length_nil]; omega)) ?_)))
      exact Eq.mp (by kernel_rfl) h
    · (show ?g161; have q_ : type_of% (px (G := ?g161) (by (conv => rhs; whnf); (repeat ((first | (apply sgA; with_reducible assumption) | (apply sgT; kernel_rfl) | apply sgP); (conv => rhs; whnf))); exact sgI)) := trivial; refine segM q_ (by kernel_rfl) ?_; clear q_; (repeat (first | with_reducible refine tt ?_ | refine And.intro (by first | with_reducible assumption | kernel_rfl | omega | (simp only [inR, List.length_cons, List.length_nil]; omega)) ?_)))
      refine ex7 ⟨b, at_, k, state, row⟩ codes l rows k c _ ⟨by kernel_rfl, by kernel_rfl, G, hc, hr, ?_⟩
      (show ?g162; have q_ : type_of% (px (G := ?g162) (by (conv => rhs; whnf); (repeat ((first | (apply sgA; with_reducible assumption) | (apply sgT; kernel_rfl) | apply sgP); (conv => rhs; whnf))); exact sgI)) := trivial; refine segM q_ (by kernel_rfl) ?_; clear q_; (repeat (first | with_reducible refine tt ?_ | refine And.intro (by first | with_reducible assumption | kernel_rfl | omega | (simp only [inR, List.length_cons, List.length_nil]; omega)) ?_)))
      exact Eq.mp (by kernel_rfl) h
  | @word c cs r0 hc hr W hl =>
    (show ?g163; have q_ : type_of% (px (G := ?g163) (by (conv => rhs; whnf); (repeat ((first | (apply sgA; with_reducible assumption) | (apply sgT; kernel_rfl) | apply sgP); (conv => rhs; whnf))); exact sgI)) := trivial; refine segM q_ (by kernel_rfl) ?_; clear q_; (repeat (first | with_reducible refine tt ?_ | refine And.intro (by first | with_reducible assumption | kernel_rfl | omega | (simp only [inR, List.length_cons, List.length_nil]; omega)) ?_)))
    refine ex7 ⟨b, at_, k, state, row⟩ codes l rows k c 0 ⟨by kernel_rfl, by kernel_rfl, G, hc, hr, ?_⟩
    (show ?g164; have q_ : type_of% (px (G := ?g164) (by (conv => rhs; whnf); (repeat ((first | (apply sgA; with_reducible assumption) | (apply sgT; kernel_rfl) | apply sgP); (conv => rhs; whnf))); exact sgI)) := trivial; refine segM q_ (by kernel_rfl) ?_; clear q_; (repeat (first | with_reducible refine tt ?_ | refine And.intro (by first | with_reducible assumption | kernel_rfl | omega | (simp only [inR, List.length_cons, List.length_nil]; omega)) ?_)))
    refine ex7 ⟨b, at_, k + 1, state, row⟩ codes l rows (k + 1) cs r0 ⟨by kernel_rfl, by kernel_rfl, G, by push_cast; rfl, W, hl, ?_⟩
    (show ?g165; have q_ : type_of% (px (G := ?g165) (by (conv => rhs; whnf); (repeat ((first | (apply sgA; with_reducible assumption) | (apply sgT; kernel_rfl) | apply sgP); (conv => rhs; whnf))); exact sgI)) := trivial; refine segM q_ (by kernel_rfl) ?_; clear q_; (repeat (first | with_reducible refine tt ?_ | refine And.intro (by first | with_reducible assumption | kernel_rfl | omega | (simp only [inR, List.length_cons, List.length_nil]; omega)) ?_)))
    exact Eq.mp (by kernel_rfl) h
theorem s360 (B : Bs w h₀) : Sound prog w h₀ 360 10 ct360 := (sd360 (lev := 8) B f360 (consΓ ((s353 B).mono (by decide)) (consΓ (s374 B) noΓ))).imp t360
end

noncomputable def LH0 (s : LS) (codes : List Int) (l : List Str) : AH := [.inst 377 1, lnNs s 2 6, .inst 187 3, nsN 4 5, .sdict (numsFrom 0 l), .list (strPV l), .list (intPV codes)]
theorem byte_ints : ∀ {cs : List Int}, (∀ c ∈ cs, 0 ≤ c ∧ c ≤ 255) → bytePV (byteArr cs) = intPV cs
  | [], _ => rfl
  | c :: r, h => by
    have ih := byte_ints (cs := r) fun x hx => h x (.tail _ hx)
    have hc := h c (.head _)
    unfold bytePV byteArr intPV at ih ⊢
    simp only [List.map_cons] at ih ⊢
    rw [ih]
    congr 1
    have : (c.toNat.toUInt8.toNat : Int) = c := by
      rw [Nat.toUInt8_eq, UInt8.toNat_ofNat']
      omega
    rw [this]
theorem byte_len (cs : List Int) : (byteArr cs).size = cs.length := by simp [byteArr]
theorem byte_at {cs : List Int} (h : ∀ c ∈ cs, 0 ≤ c ∧ c ≤ 255) {i : Nat} {c : Int} (hi : cs[i]? = some c) : (((byteArr cs).toList.getD i 0).toNat : Int) = c := by
  have hc := h c (List.mem_of_getElem? hi)
  unfold byteArr
  rw [List.toList_toArray, List.getD_eq_getElem?_getD, List.getElem?_map, hi]
  show (c.toNat.toUInt8.toNat : Int) = c
  rw [Nat.toUInt8_eq, UInt8.toNat_ofNat']
  omega
section
variable {prog : Program} {w : World} {h₀ : Heap}
noncomputable def U339 : List (Str × SV) := [(sn "len", .raw (.builtin "len")), (sn "list", .raw (.type "list")), (sn "is_whole", .raw (.ref 97)), (sn "NEW", I 0)]
theorem f339 : facts U339 [sn "self"] [] [sn "end", sn "codes"] (cl 37 3) := ⟨⟨by kernel_rfl, by kernel_rfl⟩, by kernel_rfl⟩
noncomputable def ct339 : CT := fun args H K => ∃ (s : LS) (codes : List Int) (l : List Str) (cs : List Int), args = [.ref 0] ∧ H = LH0 s codes l ∧ s.b = byteArr cs ∧ (∀ c ∈ cs, 0 ≤ c ∧ c ≤ 255) ∧ cs.length < 100000 ∧
  (((cs.length : Int) ≤ s.at_ ∧ K (B' false) (LH0 s codes l)) ∨
   (s.at_ = 0 ∧ (∃ x, cs.getLast? = some x ∧ x ≠ 32) ∧ (∀ c ∈ cs, c ≠ 10) ∧ K (B' true) ([.inst 377 1, lnNs ⟨s.b, cs.length + 1, 0, 0, s.row + 1⟩ 2 7, .inst 187 3, nsN 4 5, .sdict (numsFrom 0 l), .list (strPV l), .list (intPV codes), .list (intPV cs)])))
theorem t339 : ∀ args H K, ct339 args H K → ctD 16 [(97, ct97)] U339 [sn "self"] [] [sn "end", sn "codes"] (cl 37 3) [] args H K := by
  rintro args H K ⟨s, codes, l, cs, rfl, rfl, hb, ho, hsm, h⟩
  obtain ⟨b, at_, spot, state, row⟩ := s
  dsimp only at hb h
  subst hb
  have hL := byte_len cs
  rcases h with ⟨ha, h⟩ | ⟨ha, ⟨x, hx, hx2⟩, hn, h⟩
  · have q : decide (((byteArr cs).size : Int) ≤ at_) = true := decide_eq_true (by omega)
    (show ?g166; have q_ : type_of% (px (G := ?g166) (by (conv => rhs; whnf); (repeat ((first | (apply sgA; with_reducible assumption) | (apply sgT; kernel_rfl) | apply sgP); (conv => rhs; whnf))); exact sgI)) := trivial; refine segM q_ (by kernel_rfl) ?_; clear q_; (repeat (first | with_reducible refine tt ?_ | refine And.intro (by first | with_reducible assumption | kernel_rfl | omega | (simp only [inR, List.length_cons, List.length_nil]; omega)) ?_)))
    refine drecG (fun _z => ?_) (fun e => absurd q e)
    (show ?g167; have q_ : type_of% (px (G := ?g167) (by (conv => rhs; whnf); (repeat ((first | (apply sgA; with_reducible assumption) | (apply sgT; kernel_rfl) | apply sgP); (conv => rhs; whnf))); exact sgI)) := trivial; refine segM q_ (by kernel_rfl) ?_; clear q_; (repeat (first | with_reducible refine tt ?_ | refine And.intro (by first | with_reducible assumption | kernel_rfl | omega | (simp only [inR, List.length_cons, List.length_nil]; omega)) ?_)))
    refine drec (fun _z => ?_) (fun e => absurd (q.symm.trans e) (by decide))
    (show ?g168; have q_ : type_of% (px (G := ?g168) (by (conv => rhs; whnf); (repeat ((first | (apply sgA; with_reducible assumption) | (apply sgT; kernel_rfl) | apply sgP); (conv => rhs; whnf))); exact sgI)) := trivial; refine segM q_ (by kernel_rfl) ?_; clear q_; (repeat (first | with_reducible refine tt ?_ | refine And.intro (by first | with_reducible assumption | kernel_rfl | omega | (simp only [inR, List.length_cons, List.length_nil]; omega)) ?_)))
    exact Eq.mp (by kernel_rfl) h
  · subst ha
    obtain ⟨n, hn1⟩ : ∃ n, cs.length = n + 1 := by
      cases cs with
      | nil => simp at hx
      | cons a r => exact ⟨r.length, rfl⟩
    have q : decide (((byteArr cs).size : Int) ≤ 0) = false := decide_eq_false (by omega)
    (show ?g169; have q_ : type_of% (px (G := ?g169) (by (conv => rhs; whnf); (repeat ((first | (apply sgA; with_reducible assumption) | (apply sgT; kernel_rfl) | apply sgP); (conv => rhs; whnf))); exact sgI)) := trivial; refine segM q_ (by kernel_rfl) ?_; clear q_; (repeat (first | with_reducible refine tt ?_ | refine And.intro (by first | with_reducible assumption | kernel_rfl | omega | (simp only [inR, List.length_cons, List.length_nil]; omega)) ?_)))
    refine drecG (fun e => absurd (q.symm.trans e) (by decide)) (fun _z => ?_)
    (show ?g170; have q_ : type_of% (px (G := ?g170) (by (conv => rhs; whnf); (repeat ((first | (apply sgA; with_reducible assumption) | (apply sgT; kernel_rfl) | apply sgP); (conv => rhs; whnf))); exact sgI)) := trivial; refine segM q_ (by kernel_rfl) ?_; clear q_; (repeat (first | with_reducible refine tt ?_ | refine And.intro (by first | with_reducible assumption | kernel_rfl | omega | (simp only [inR, List.length_cons, List.length_nil]; omega)) ?_)))
    refine ⟨cs.length + 1, ?_⟩
    refine whileK_ind2 (fun m vars H => H = LH0 ⟨byteArr cs, 0, spot, state, row⟩ codes l ∧ ∃ e : Nat, e ≤ cs.length ∧ cs.length ≤ m + e ∧ vars = [(sn "self", .ref 0), (sn "end", I e)])
      (fun vars H => H = LH0 ⟨byteArr cs, 0, spot, state, row⟩ codes l ∧ vars = [(sn "self", .ref 0), (sn "end", I cs.length)]) ?_ ?_ ?_ _ _ _ ⟨by kernel_rfl, 0, by omega, by omega, by kernel_rfl⟩
    · rintro m vars H Kt Ke ⟨rfl, e, he, hm, rfl⟩ hk hx'
      (show ?g171; have q_ : type_of% (px (G := ?g171) (by (conv => rhs; whnf); (repeat ((first | (apply sgA; with_reducible assumption) | (apply sgT; kernel_rfl) | apply sgP); (conv => rhs; whnf))); exact sgI)) := trivial; refine segM q_ (by kernel_rfl) ?_; clear q_; (repeat (first | with_reducible refine tt ?_ | refine And.intro (by first | with_reducible assumption | kernel_rfl | omega | (simp only [inR, List.length_cons, List.length_nil]; omega)) ?_)))
      refine drecG (fun q => ?_) (fun q => ?_)
      · have q : decide ((e : Int) < ((byteArr cs).size : Int)) = false := q
        have : e = cs.length := by have := of_decide_eq_false q; omega
        subst this
        have ex := hx' _ _ ⟨rfl, rfl⟩
        (show ?g172; have q_ : type_of% (px (G := ?g172) (by (conv => rhs; whnf); (repeat ((first | (apply sgA; with_reducible assumption) | (apply sgT; kernel_rfl) | apply sgP); (conv => rhs; whnf))); exact sgI)) := trivial; refine segM q_ (by kernel_rfl) ?_; clear q_; (repeat (first | with_reducible refine tt ?_ | refine And.intro (by first | with_reducible assumption | kernel_rfl | omega | (simp only [inR, List.length_cons, List.length_nil]; omega)) ?_)))
        refine drec (fun e2 => absurd (q.symm.trans e2) (by decide)) (fun _z => ?_)
        exact Eq.mp (by kernel_rfl) ex
      · have q : decide ((e : Int) < ((byteArr cs).size : Int)) = true := neF (show ¬ decide ((e : Int) < ((byteArr cs).size : Int)) = false from q)
        have he2 : e < cs.length := by have := of_decide_eq_true q; omega
        obtain ⟨d, hd⟩ : ∃ d, cs[e]? = some d := ⟨_, List.getElem?_eq_getElem he2⟩
        have hd2 := byte_at ho hd
        have hd3 := hn d (List.mem_of_getElem? hd)
        have q2 : (!decide ((((byteArr cs).toList.getD e 0).toNat : Int) = 10)) = true := by
          rw [hd2, decide_eq_false hd3]; rfl
        (show ?g173; have q_ : type_of% (px (G := ?g173) (by (conv => rhs; whnf); (repeat ((first | (apply sgA; with_reducible assumption) | (apply sgT; kernel_rfl) | apply sgP); (conv => rhs; whnf))); exact sgI)) := trivial; refine segM q_ (by kernel_rfl) ?_; clear q_; (repeat (first | with_reducible refine tt ?_ | refine And.intro (by first | with_reducible assumption | kernel_rfl | omega | (simp only [inR, List.length_cons, List.length_nil]; omega)) ?_)))
        refine drecG (fun e2 => absurd (q2.symm.trans e2) (by decide)) (fun _z => ?_)
        (show ?g174; have q_ : type_of% (px (G := ?g174) (by (conv => rhs; whnf); (repeat ((first | (apply sgA; with_reducible assumption) | (apply sgT; kernel_rfl) | apply sgP); (conv => rhs; whnf))); exact sgI)) := trivial; refine segM q_ (by kernel_rfl) ?_; clear q_; (repeat (first | with_reducible refine tt ?_ | refine And.intro (by first | with_reducible assumption | kernel_rfl | omega | (simp only [inR, List.length_cons, List.length_nil]; omega)) ?_)))
        refine hk (m - 1) _ _ (by omega) ⟨by kernel_rfl, e + 1, by omega, by omega, by kernel_rfl⟩
    · rintro m m' vars H hm ⟨h1, e, he, hm2, hv⟩
      exact ⟨h1, e, he, by omega, hv⟩
    · rintro vars H ⟨rfl, rfl⟩
      (show ?g175; have q_ : type_of% (px (G := ?g175) (by (conv => rhs; whnf); (repeat ((first | (apply sgA; with_reducible assumption) | (apply sgT; kernel_rfl) | apply sgP); (conv => rhs; whnf))); exact sgI)) := trivial; refine segM q_ (by kernel_rfl) ?_; clear q_; (repeat (first | with_reducible refine tt ?_ | refine And.intro (by first | with_reducible assumption | kernel_rfl | omega | (simp only [inR, List.length_cons, List.length_nil]; omega)) ?_)))
      have sb : sliceBounds (some 0) (some (cs.length : Int)) none (byteArr cs).size = (0, (cs.length : Int), 1) := by
        rw [hL]
        unfold sliceBounds
        have h1 : ¬ ((cs.length : Int) < 0) := by omega
        have h2 : ¬ ((0 : Int) < 0) := by omega
        simp only [Option.getD_none, h1, h2, if_false]
        refine Prod.ext ?_ (Prod.ext ?_ rfl)
        · show (if (1 : Int) > 0 then max 0 (min 0 (cs.length : Int)) else max (-1) (min 0 ((cs.length : Int) - 1))) = 0
          rw [if_pos (by omega)]; omega
        · show (if (1 : Int) > 0 then max 0 (min (cs.length : Int) (cs.length : Int)) else max (-1) (min (cs.length : Int) ((cs.length : Int) - 1))) = (cs.length : Int)
          rw [if_pos (by omega)]; omega
      have pk : KBy.picked (byteArr cs) (some 0) (some (cs.length : Int)) = byteArr cs := KBc.whole_picked (by
        unfold KBy.whole
        rw [sb, hL]
        have : (byteArr cs).isEmpty = false := by
          rw [← Bool.not_eq_true, Array.isEmpty_iff_size_eq_zero]; omega
        simp [this])
      dsimp only
      rw [pk]
      refine ⟨Nat.le_trans (show (byteArr cs).size ≤ 100000 by omega) (by decide), ?_⟩
      (show ?g176; have q_ : type_of% (px (G := ?g176) (by (conv => rhs; whnf); (repeat ((first | (apply sgA; with_reducible assumption) | (apply sgT; kernel_rfl) | apply sgP); (conv => rhs; whnf))); exact sgI)) := trivial; refine segM q_ (by kernel_rfl) ?_; clear q_; (repeat (first | with_reducible refine tt ?_ | refine And.intro (by first | with_reducible assumption | kernel_rfl | omega | (simp only [inR, List.length_cons, List.length_nil]; omega)) ?_)))
      rw [byte_ints ho]
      have hL2 := intPV_len cs
      have q1 : decide (0 < ((intPV cs).length : Int)) = true := decide_eq_true (by omega)
      have q2 : decide (x = 32) = false := decide_eq_false hx2
      have ix : ixL (-1) (intPV cs) = some (.int x) := by
        unfold ixL seqIndex?
        rw [hL2]
        have h1 : ((-1 : Int) < 0) := by omega
        simp only [h1, if_true]
        rw [if_pos (by simp; omega)]
        dsimp only
        rw [List.getLast?_eq_getElem?] at hx
        unfold intPV
        rw [List.getElem?_map, show ((-1 : Int) + (cs.length : Int)).toNat = cs.length - 1 by omega, hx]; rfl
      refine ⟨1, ?_⟩
      (show ?g177; have q_ : type_of% (px (G := ?g177) (by (conv => rhs; whnf); (repeat ((first | (apply sgA; with_reducible assumption) | (apply sgT; kernel_rfl) | apply sgP); (conv => rhs; whnf))); exact sgI)) := trivial; refine segM q_ (by kernel_rfl) ?_; clear q_; (repeat (first | with_reducible refine tt ?_ | refine And.intro (by first | with_reducible assumption | kernel_rfl | omega | (simp only [inR, List.length_cons, List.length_nil]; omega)) ?_)))
      refine drecG (fun e => absurd (q1.symm.trans e) (by decide)) (fun _z => ?_)
      (show ?g178; have q_ : type_of% (px (G := ?g178) (by (conv => rhs; whnf); (repeat ((first | (apply sgA; with_reducible assumption) | (apply sgT; kernel_rfl) | apply sgP); (conv => rhs; whnf))); exact sgI)) := trivial; refine segM q_ (by kernel_rfl) ?_; clear q_; (repeat (first | with_reducible refine tt ?_ | refine And.intro (by first | with_reducible assumption | kernel_rfl | omega | (simp only [inR, List.length_cons, List.length_nil]; omega)) ?_)))
      rw [ix]
      (show ?g179; have q_ : type_of% (px (G := ?g179) (by (conv => rhs; whnf); (repeat ((first | (apply sgA; with_reducible assumption) | (apply sgT; kernel_rfl) | apply sgP); (conv => rhs; whnf))); exact sgI)) := trivial; refine segM q_ (by kernel_rfl) ?_; clear q_; (repeat (first | with_reducible refine tt ?_ | refine And.intro (by first | with_reducible assumption | kernel_rfl | omega | (simp only [inR, List.length_cons, List.length_nil]; omega)) ?_)))
      refine drecG (fun _z => ?_) (fun e => absurd q2 e)
      (show ?g180; have q_ : type_of% (px (G := ?g180) (by (conv => rhs; whnf); (repeat ((first | (apply sgA; with_reducible assumption) | (apply sgT; kernel_rfl) | apply sgP); (conv => rhs; whnf))); exact sgI)) := trivial; refine segM q_ (by kernel_rfl) ?_; clear q_; (repeat (first | with_reducible refine tt ?_ | refine And.intro (by first | with_reducible assumption | kernel_rfl | omega | (simp only [inR, List.length_cons, List.length_nil]; omega)) ?_)))
      refine drec (fun e => absurd (q2.symm.trans e) (by decide)) (fun _z => ?_)
      (show ?g181; have q_ : type_of% (px (G := ?g181) (by (conv => rhs; whnf); (repeat ((first | (apply sgA; with_reducible assumption) | (apply sgT; kernel_rfl) | apply sgP); (conv => rhs; whnf))); exact sgI)) := trivial; refine segM q_ (by kernel_rfl) ?_; clear q_; (repeat (first | with_reducible refine tt ?_ | refine And.intro (by first | with_reducible assumption | kernel_rfl | omega | (simp only [inR, List.length_cons, List.length_nil]; omega)) ?_)))
      exact Eq.mp (by kernel_rfl) h
theorem s339 (B : Bs w h₀) : Sound prog w h₀ 339 4 ct339 := (sd339 (lev := 2) B f339 (consΓ (s97 B) noΓ)).imp t339
end

noncomputable def LH2 (s : LS) (codes0 codes : List Int) (l : List Str) (rows : List Int) : AH :=
  [.inst 377 1, lnNs s 2 10, .inst 187 3, nsN 4 5, .sdict (numsFrom 0 l), .list (strPV l), .list (intPV codes0), .inst 235 8, .ns [(sn "rows", .ref 9)], .list (intPV rows), .list (intPV codes)]
noncomputable def ReadR (rows codes : List Int) (l : List Str) (k : Nat) (st : Int) (t : Int × Int) (l' : List Str) (k' : Nat) (st' : Int) : Prop :=
  StepR rows codes l k st (.p (tokPV t)) l' k' st' ∨ (StepR rows codes l k st (.p .none) l (k + 1) st ∧ StepR rows codes l (k + 1) st (.p (tokPV t)) l' k' st')
theorem StepR.lt {rows codes : List Int} {l : List Str} {k : Nat} {st : Int} {v : SV} {l' : List Str} {k' : Nat} {st' : Int} (R : StepR rows codes l k st v l' k' st') : k < codes.length := by
  cases R with
  | blank h _ _ => exact (List.getElem?_eq_some_iff.mp h).1
  | space h _ _ => exact (List.getElem?_eq_some_iff.mp h).1
  | char h _ _ => exact (List.getElem?_eq_some_iff.mp h).1
  | word h _ _ _ => exact (List.getElem?_eq_some_iff.mp h).1
noncomputable def ctRd : CT := fun args H K => ∃ (s : LS) (codes : List Int) (l : List Str) (rows : List Int), args = [.ref 0, .ref 7] ∧ H = LH s codes l rows ∧
  ((Good codes rows ∧ ∃ (k : Nat) (t : Int × Int) (l' : List Str) (k' : Nat) (st' : Int), s.spot = k ∧ ReadR rows codes l k s.state t l' k' st' ∧ K (.p (tokPV t)) (LH { s with spot := k', state := st' } codes l' rows)) ∨
   (∃ (cs : List Int) (t : Int × Int) (l' : List Str) (k' : Nat) (st' : Int), codes = [] ∧ Good cs rows ∧ s.b = byteArr cs ∧ s.at_ = 0 ∧ s.spot = 0 ∧ (∃ x, cs.getLast? = some x ∧ x ≠ 32) ∧ (∀ c ∈ cs, c ≠ 10) ∧ StepR rows cs l 0 0 (.p (tokPV t)) l' k' st' ∧
      K (.p (tokPV t)) (LH2 ⟨s.b, cs.length + 1, k', st', s.row + 1⟩ [] cs l' rows)) ∨
   (∃ (cs : List Int), s.b = byteArr cs ∧ (∀ c ∈ cs, 0 ≤ c ∧ c ≤ 255) ∧ cs.length < 100000 ∧ (cs.length : Int) ≤ s.at_ ∧ s.spot = codes.length ∧ codes.length < 100000 ∧ K (.p .none) (LH s codes l rows)))
noncomputable def rdV (v : SV) : Vars := [(sn "self", .ref 0), (sn "cats", .ref 7), (sn "token", v)]
section
variable {prog : Program} {w : World} {h₀ : Heap}
noncomputable def U346 : List (Str × SV) := [(sn "len", .raw (.builtin "len"))]
theorem f346 : facts U346 [sn "self", sn "cats"] [] [sn "token"] (cl 37 4) := ⟨⟨by kernel_rfl, by kernel_rfl⟩, by kernel_rfl⟩
theorem t346 : ∀ args H K, ctRd args H K → ctD 14 [(360, ct360), (339, ct339)] U346 [sn "self", sn "cats"] [] [sn "token"] (cl 37 4) [] args H K := by
  rintro args H K ⟨⟨b, at_, spot, state, row⟩, codes, l, rows, rfl, rfl, h⟩
  have hL := intPV_len codes
  rcases h with ⟨G, k, t, l', k', st', hk, R, h⟩ | ⟨cs, t, l', k', st', rfl, G, hb, ha, hk, hx, hn, R, h⟩ | ⟨cs, hb, ho, hsm, ha, hk, hs, h⟩
  · dsimp only at hk R
    subst hk
    have hs := G.small
    (show ?g182; have q_ : type_of% (px (G := ?g182) (by (conv => rhs; whnf); (repeat ((first | (apply sgA; with_reducible assumption) | (apply sgT; kernel_rfl) | apply sgP); (conv => rhs; whnf))); exact sgI)) := trivial; refine segM q_ (by kernel_rfl) ?_; clear q_; (repeat (first | with_reducible refine tt ?_ | refine And.intro (by first | with_reducible assumption | kernel_rfl | omega | (simp only [inR, List.length_cons, List.length_nil]; omega)) ?_)))
    refine ⟨3, ?_⟩
    refine whileK_ind2 (fun m vars H => (∃ p : Nat, 1 ≤ m ∧ vars = rdV (.p .none) ∧ H = LH ⟨b, at_, p, state, row⟩ codes l rows ∧ StepR rows codes l p state (.p (tokPV t)) l' k' st') ∨
        (2 ≤ m ∧ vars = rdV (.p .none) ∧ H = LH ⟨b, at_, k, state, row⟩ codes l rows ∧ StepR rows codes l k state (.p .none) l (k + 1) state ∧ StepR rows codes l (k + 1) state (.p (tokPV t)) l' k' st') ∨
        (vars = rdV (.p (tokPV t)) ∧ H = LH ⟨b, at_, k', st', row⟩ codes l' rows))
      (fun vars H => vars = rdV (.p (tokPV t)) ∧ H = LH ⟨b, at_, k', st', row⟩ codes l' rows) ?_ ?_ ?_ _ _ _ ?_
    · rintro m vars H Kt Ke hJ hk hx
      rcases hJ with ⟨p, hm, rfl, rfl, R⟩ | ⟨hm, rfl, rfl, R1, R⟩ | ⟨rfl, rfl⟩
      · have hlt := R.lt
        (show ?g183; have q_ : type_of% (px (G := ?g183) (by (conv => rhs; whnf); (repeat ((first | (apply sgA; with_reducible assumption) | (apply sgT; kernel_rfl) | apply sgP); (conv => rhs; whnf))); exact sgI)) := trivial; refine segM q_ (by kernel_rfl) ?_; clear q_; (repeat (first | with_reducible refine tt ?_ | refine And.intro (by first | with_reducible assumption | kernel_rfl | omega | (simp only [inR, List.length_cons, List.length_nil]; omega)) ?_)))
        refine drec (fun _z => ?_) (fun e => absurd (of_decide_eq_false (show decide ((p : Int) < ((intPV codes).length : Int)) = false from e)) (by omega))
        (show ?g184; have q_ : type_of% (px (G := ?g184) (by (conv => rhs; whnf); (repeat ((first | (apply sgA; with_reducible assumption) | (apply sgT; kernel_rfl) | apply sgP); (conv => rhs; whnf))); exact sgI)) := trivial; refine segM q_ (by kernel_rfl) ?_; clear q_; (repeat (first | with_reducible refine tt ?_ | refine And.intro (by first | with_reducible assumption | kernel_rfl | omega | (simp only [inR, List.length_cons, List.length_nil]; omega)) ?_)))
        refine ⟨⟨b, at_, p, state, row⟩, codes, l, rows, p, _, _, _, _, by kernel_rfl, by kernel_rfl, G, rfl, R, ?_⟩
        (show ?g185; have q_ : type_of% (px (G := ?g185) (by (conv => rhs; whnf); (repeat ((first | (apply sgA; with_reducible assumption) | (apply sgT; kernel_rfl) | apply sgP); (conv => rhs; whnf))); exact sgI)) := trivial; refine segM q_ (by kernel_rfl) ?_; clear q_; (repeat (first | with_reducible refine tt ?_ | refine And.intro (by first | with_reducible assumption | kernel_rfl | omega | (simp only [inR, List.length_cons, List.length_nil]; omega)) ?_)))
        exact hk (m - 1) _ _ (by omega) (.inr (.inr ⟨by kernel_rfl, by kernel_rfl⟩))
      · have hlt := R1.lt
        (show ?g186; have q_ : type_of% (px (G := ?g186) (by (conv => rhs; whnf); (repeat ((first | (apply sgA; with_reducible assumption) | (apply sgT; kernel_rfl) | apply sgP); (conv => rhs; whnf))); exact sgI)) := trivial; refine segM q_ (by kernel_rfl) ?_; clear q_; (repeat (first | with_reducible refine tt ?_ | refine And.intro (by first | with_reducible assumption | kernel_rfl | omega | (simp only [inR, List.length_cons, List.length_nil]; omega)) ?_)))
        refine drec (fun _z => ?_) (fun e => absurd (of_decide_eq_false (show decide ((k : Int) < ((intPV codes).length : Int)) = false from e)) (by omega))
        (show ?g187; have q_ : type_of% (px (G := ?g187) (by (conv => rhs; whnf); (repeat ((first | (apply sgA; with_reducible assumption) | (apply sgT; kernel_rfl) | apply sgP); (conv => rhs; whnf))); exact sgI)) := trivial; refine segM q_ (by kernel_rfl) ?_; clear q_; (repeat (first | with_reducible refine tt ?_ | refine And.intro (by first | with_reducible assumption | kernel_rfl | omega | (simp only [inR, List.length_cons, List.length_nil]; omega)) ?_)))
        refine ⟨⟨b, at_, k, state, row⟩, codes, l, rows, k, _, _, _, _, by kernel_rfl, by kernel_rfl, G, rfl, R1, ?_⟩
        (show ?g188; have q_ : type_of% (px (G := ?g188) (by (conv => rhs; whnf); (repeat ((first | (apply sgA; with_reducible assumption) | (apply sgT; kernel_rfl) | apply sgP); (conv => rhs; whnf))); exact sgI)) := trivial; refine segM q_ (by kernel_rfl) ?_; clear q_; (repeat (first | with_reducible refine tt ?_ | refine And.intro (by first | with_reducible assumption | kernel_rfl | omega | (simp only [inR, List.length_cons, List.length_nil]; omega)) ?_)))
        exact hk (m - 1) _ _ (by omega) (.inl ⟨k + 1, by omega, by kernel_rfl, by kernel_rfl, R⟩)
      · have ex := hx _ _ ⟨rfl, rfl⟩
        (show ?g189; have q_ : type_of% (px (G := ?g189) (by (conv => rhs; whnf); (repeat ((first | (apply sgA; with_reducible assumption) | (apply sgT; kernel_rfl) | apply sgP); (conv => rhs; whnf))); exact sgI)) := trivial; refine segM q_ (by kernel_rfl) ?_; clear q_; (repeat (first | with_reducible refine tt ?_ | refine And.intro (by first | with_reducible assumption | kernel_rfl | omega | (simp only [inR, List.length_cons, List.length_nil]; omega)) ?_)))
        exact Eq.mp (by kernel_rfl) ex
    · rintro m m' vars H hm (⟨p, q, r⟩ | ⟨q, r⟩ | q)
      · exact .inl ⟨p, by omega, r⟩
      · exact .inr (.inl ⟨by omega, r⟩)
      · exact .inr (.inr q)
    · rintro vars H ⟨rfl, rfl⟩
      (show ?g190; have q_ : type_of% (px (G := ?g190) (by (conv => rhs; whnf); (repeat ((first | (apply sgA; with_reducible assumption) | (apply sgT; kernel_rfl) | apply sgP); (conv => rhs; whnf))); exact sgI)) := trivial; refine segM q_ (by kernel_rfl) ?_; clear q_; (repeat (first | with_reducible refine tt ?_ | refine And.intro (by first | with_reducible assumption | kernel_rfl | omega | (simp only [inR, List.length_cons, List.length_nil]; omega)) ?_)))
      exact Eq.mp (by kernel_rfl) h
    · rcases R with R | ⟨R1, R⟩
      · exact .inl ⟨k, by omega, by kernel_rfl, by kernel_rfl, R⟩
      · exact .inr (.inl ⟨by omega, by kernel_rfl, by kernel_rfl, R1, R⟩)
  · dsimp only at hb ha hk h
    subst hb; subst ha; subst hk
    have hL2 := intPV_len cs
    have hlt := R.lt
    have hs := G.small
    (show ?g191; have q_ : type_of% (px (G := ?g191) (by (conv => rhs; whnf); (repeat ((first | (apply sgA; with_reducible assumption) | (apply sgT; kernel_rfl) | apply sgP); (conv => rhs; whnf))); exact sgI)) := trivial; refine segM q_ (by kernel_rfl) ?_; clear q_; (repeat (first | with_reducible refine tt ?_ | refine And.intro (by first | with_reducible assumption | kernel_rfl | omega | (simp only [inR, List.length_cons, List.length_nil]; omega)) ?_)))
    refine ⟨3, ?_⟩
    refine whileK_ind2 (fun m vars H => (2 ≤ m ∧ vars = rdV (.p .none) ∧ H = LH ⟨byteArr cs, 0, 0, state, row⟩ [] l rows) ∨
        (1 ≤ m ∧ vars = rdV (.p .none) ∧ H = LH2 ⟨byteArr cs, cs.length + 1, 0, 0, row + 1⟩ [] cs l rows) ∨
        (vars = rdV (.p (tokPV t)) ∧ H = LH2 ⟨byteArr cs, cs.length + 1, k', st', row + 1⟩ [] cs l' rows))
      (fun vars H => vars = rdV (.p (tokPV t)) ∧ H = LH2 ⟨byteArr cs, cs.length + 1, k', st', row + 1⟩ [] cs l' rows) ?_ ?_ ?_ _ _ _ (.inl ⟨by omega, by kernel_rfl, by kernel_rfl⟩)
    · rintro m vars H Kt Ke hJ hk hx'
      rcases hJ with ⟨hm, rfl, rfl⟩ | ⟨hm, rfl, rfl⟩ | ⟨rfl, rfl⟩
      · (show ?g192; have q_ : type_of% (px (G := ?g192) (by (conv => rhs; whnf); (repeat ((first | (apply sgA; with_reducible assumption) | (apply sgT; kernel_rfl) | apply sgP); (conv => rhs; whnf))); exact sgI)) := trivial; refine segM q_ (by kernel_rfl) ?_; clear q_; (repeat (first | with_reducible refine tt ?_ | refine And.intro (by first | with_reducible assumption | kernel_rfl | omega | (simp only [inR, List.length_cons, List.length_nil]; omega)) ?_)))
        refine ⟨by decide, ?_⟩
        (show ?g193; have q_ : type_of% (px (G := ?g193) (by (conv => rhs; whnf); (repeat ((first | (apply sgA; with_reducible assumption) | (apply sgT; kernel_rfl) | apply sgP); (conv => rhs; whnf))); exact sgI)) := trivial; refine segM q_ (by kernel_rfl) ?_; clear q_; (repeat (first | with_reducible refine tt ?_ | refine And.intro (by first | with_reducible assumption | kernel_rfl | omega | (simp only [inR, List.length_cons, List.length_nil]; omega)) ?_)))
        refine ex4 ⟨byteArr cs, 0, 0, state, row⟩ [] l cs ⟨by kernel_rfl, by kernel_rfl, rfl, G.oct, hs, .inr ⟨rfl, hx, hn, ?_⟩⟩
        (show ?g194; have q_ : type_of% (px (G := ?g194) (by (conv => rhs; whnf); (repeat ((first | (apply sgA; with_reducible assumption) | (apply sgT; kernel_rfl) | apply sgP); (conv => rhs; whnf))); exact sgI)) := trivial; refine segM q_ (by kernel_rfl) ?_; clear q_; (repeat (first | with_reducible refine tt ?_ | refine And.intro (by first | with_reducible assumption | kernel_rfl | omega | (simp only [inR, List.length_cons, List.length_nil]; omega)) ?_)))
        exact hk (m - 1) _ _ (by omega) (.inr (.inl ⟨by omega, by kernel_rfl, by kernel_rfl⟩))
      · (show ?g195; have q_ : type_of% (px (G := ?g195) (by (conv => rhs; whnf); (repeat ((first | (apply sgA; with_reducible assumption) | (apply sgT; kernel_rfl) | apply sgP); (conv => rhs; whnf))); exact sgI)) := trivial; refine segM q_ (by kernel_rfl) ?_; clear q_; (repeat (first | with_reducible refine tt ?_ | refine And.intro (by first | with_reducible assumption | kernel_rfl | omega | (simp only [inR, List.length_cons, List.length_nil]; omega)) ?_)))
        refine drec (fun _z => ?_) (fun e => absurd (of_decide_eq_false (show decide ((0 : Int) < ((intPV cs).length : Int)) = false from e)) (by omega))
        (show ?g196; have q_ : type_of% (px (G := ?g196) (by (conv => rhs; whnf); (repeat ((first | (apply sgA; with_reducible assumption) | (apply sgT; kernel_rfl) | apply sgP); (conv => rhs; whnf))); exact sgI)) := trivial; refine segM q_ (by kernel_rfl) ?_; clear q_; (repeat (first | with_reducible refine tt ?_ | refine And.intro (by first | with_reducible assumption | kernel_rfl | omega | (simp only [inR, List.length_cons, List.length_nil]; omega)) ?_)))
        refine ⟨⟨byteArr cs, cs.length + 1, (0 : Nat), 0, row + 1⟩, cs, l, rows, 0, _, _, _, _, by kernel_rfl, by kernel_rfl, G, rfl, R, ?_⟩
        (show ?g197; have q_ : type_of% (px (G := ?g197) (by (conv => rhs; whnf); (repeat ((first | (apply sgA; with_reducible assumption) | (apply sgT; kernel_rfl) | apply sgP); (conv => rhs; whnf))); exact sgI)) := trivial; refine segM q_ (by kernel_rfl) ?_; clear q_; (repeat (first | with_reducible refine tt ?_ | refine And.intro (by first | with_reducible assumption | kernel_rfl | omega | (simp only [inR, List.length_cons, List.length_nil]; omega)) ?_)))
        exact hk (m - 1) _ _ (by omega) (.inr (.inr ⟨by kernel_rfl, by kernel_rfl⟩))
      · have ex := hx' _ _ ⟨rfl, rfl⟩
        (show ?g198; have q_ : type_of% (px (G := ?g198) (by (conv => rhs; whnf); (repeat ((first | (apply sgA; with_reducible assumption) | (apply sgT; kernel_rfl) | apply sgP); (conv => rhs; whnf))); exact sgI)) := trivial; refine segM q_ (by kernel_rfl) ?_; clear q_; (repeat (first | with_reducible refine tt ?_ | refine And.intro (by first | with_reducible assumption | kernel_rfl | omega | (simp only [inR, List.length_cons, List.length_nil]; omega)) ?_)))
        exact Eq.mp (by kernel_rfl) ex
    · rintro m m' vars H hm (⟨q, r⟩ | ⟨q, r⟩ | q)
      · exact .inl ⟨by omega, r⟩
      · exact .inr (.inl ⟨by omega, r⟩)
      · exact .inr (.inr q)
    · rintro vars H ⟨rfl, rfl⟩
      (show ?g199; have q_ : type_of% (px (G := ?g199) (by (conv => rhs; whnf); (repeat ((first | (apply sgA; with_reducible assumption) | (apply sgT; kernel_rfl) | apply sgP); (conv => rhs; whnf))); exact sgI)) := trivial; refine segM q_ (by kernel_rfl) ?_; clear q_; (repeat (first | with_reducible refine tt ?_ | refine And.intro (by first | with_reducible assumption | kernel_rfl | omega | (simp only [inR, List.length_cons, List.length_nil]; omega)) ?_)))
      exact Eq.mp (by kernel_rfl) h
  · dsimp only at hb ha hk
    subst hb; subst hk
    (show ?g200; have q_ : type_of% (px (G := ?g200) (by (conv => rhs; whnf); (repeat ((first | (apply sgA; with_reducible assumption) | (apply sgT; kernel_rfl) | apply sgP); (conv => rhs; whnf))); exact sgI)) := trivial; refine segM q_ (by kernel_rfl) ?_; clear q_; (repeat (first | with_reducible refine tt ?_ | refine And.intro (by first | with_reducible assumption | kernel_rfl | omega | (simp only [inR, List.length_cons, List.length_nil]; omega)) ?_)))
    refine ⟨1, ?_⟩
    (show ?g201; have q_ : type_of% (px (G := ?g201) (by (conv => rhs; whnf); (repeat ((first | (apply sgA; with_reducible assumption) | (apply sgT; kernel_rfl) | apply sgP); (conv => rhs; whnf))); exact sgI)) := trivial; refine segM q_ (by kernel_rfl) ?_; clear q_; (repeat (first | with_reducible refine tt ?_ | refine And.intro (by first | with_reducible assumption | kernel_rfl | omega | (simp only [inR, List.length_cons, List.length_nil]; omega)) ?_)))
    refine drec (fun e => absurd (of_decide_eq_true (show decide ((codes.length : Int) < ((intPV codes).length : Int)) = true from e)) (by omega)) (fun _z => ?_)
    (show ?g202; have q_ : type_of% (px (G := ?g202) (by (conv => rhs; whnf); (repeat ((first | (apply sgA; with_reducible assumption) | (apply sgT; kernel_rfl) | apply sgP); (conv => rhs; whnf))); exact sgI)) := trivial; refine segM q_ (by kernel_rfl) ?_; clear q_; (repeat (first | with_reducible refine tt ?_ | refine And.intro (by first | with_reducible assumption | kernel_rfl | omega | (simp only [inR, List.length_cons, List.length_nil]; omega)) ?_)))
    refine ex4 ⟨byteArr cs, at_, codes.length, state, row⟩ codes l cs ⟨by kernel_rfl, by kernel_rfl, rfl, ho, hsm, .inl ⟨ha, ?_⟩⟩
    (show ?g203; have q_ : type_of% (px (G := ?g203) (by (conv => rhs; whnf); (repeat ((first | (apply sgA; with_reducible assumption) | (apply sgT; kernel_rfl) | apply sgP); (conv => rhs; whnf))); exact sgI)) := trivial; refine segM q_ (by kernel_rfl) ?_; clear q_; (repeat (first | with_reducible refine tt ?_ | refine And.intro (by first | with_reducible assumption | kernel_rfl | omega | (simp only [inR, List.length_cons, List.length_nil]; omega)) ?_)))
    exact Eq.mp (by kernel_rfl) h
theorem s346 (B : Bs w h₀) : Sound prog w h₀ 346 12 ctRd := (sd346 (lev := 10) B f346 (consΓ (s360 B) (consΓ ((s339 B).mono (by decide)) noΓ))).imp t346
theorem f332 : facts [] [sn "self", sn "cats"] [] [sn "held", sn "token"] (cl 37 2) := ⟨⟨by kernel_rfl, by kernel_rfl⟩, by kernel_rfl⟩
theorem t332 : ∀ args H K, ctRd args H K → ctD 14 [(346, ctRd)] [] [sn "self", sn "cats"] [] [sn "held", sn "token"] (cl 37 2) [] args H K := by
  rintro args H K ⟨⟨b, at_, spot, state, row⟩, codes, l, rows, rfl, rfl, h⟩
  obtain ⟨c346, hc⟩ : ∃ c : CT, c = ctRd := ⟨_, rfl⟩
  rw [← hc]
  rcases h with ⟨G, k, t, l', k', st', hk, R, h⟩ | ⟨cs, t, l', k', st', rfl, G, hb, ha, hk, hx, hn, R, h⟩ | ⟨cs, hb, ho, hsm, ha, hk, hs, h⟩
  · (show ?g204; have q_ : type_of% (px (G := ?g204) (by (conv => rhs; whnf); (repeat ((first | (apply sgA; with_reducible assumption) | (apply sgT; kernel_rfl) | apply sgP); (conv => rhs; whnf))); exact sgI)) := trivial; refine segM q_ (by kernel_rfl) ?_; clear q_; (repeat (first | with_reducible refine tt ?_ | refine And.intro (by first | with_reducible assumption | kernel_rfl | omega | (simp only [inR, List.length_cons, List.length_nil]; omega)) ?_)))
    refine callH hc [.ref 0, .ref 7] (LH ⟨b, at_, spot, state, row⟩ codes l rows) (by kernel_rfl) (by kernel_rfl) ⟨_, codes, l, rows, rfl, rfl, .inl ⟨G, k, t, l', k', st', hk, R, ?_⟩⟩
    (show ?g205; have q_ : type_of% (px (G := ?g205) (by (conv => rhs; whnf); (repeat ((first | (apply sgA; with_reducible assumption) | (apply sgT; kernel_rfl) | apply sgP); (conv => rhs; whnf))); exact sgI)) := trivial; refine segM q_ (by kernel_rfl) ?_; clear q_; (repeat (first | with_reducible refine tt ?_ | refine And.intro (by first | with_reducible assumption | kernel_rfl | omega | (simp only [inR, List.length_cons, List.length_nil]; omega)) ?_)))
    exact Eq.mp (by kernel_rfl) h
  · (show ?g206; have q_ : type_of% (px (G := ?g206) (by (conv => rhs; whnf); (repeat ((first | (apply sgA; with_reducible assumption) | (apply sgT; kernel_rfl) | apply sgP); (conv => rhs; whnf))); exact sgI)) := trivial; refine segM q_ (by kernel_rfl) ?_; clear q_; (repeat (first | with_reducible refine tt ?_ | refine And.intro (by first | with_reducible assumption | kernel_rfl | omega | (simp only [inR, List.length_cons, List.length_nil]; omega)) ?_)))
    refine callH hc [.ref 0, .ref 7] (LH ⟨b, at_, spot, state, row⟩ [] l rows) (by kernel_rfl) (by kernel_rfl) ⟨_, [], l, rows, rfl, rfl, .inr (.inl ⟨cs, t, l', k', st', rfl, G, hb, ha, hk, hx, hn, R, ?_⟩)⟩
    (show ?g207; have q_ : type_of% (px (G := ?g207) (by (conv => rhs; whnf); (repeat ((first | (apply sgA; with_reducible assumption) | (apply sgT; kernel_rfl) | apply sgP); (conv => rhs; whnf))); exact sgI)) := trivial; refine segM q_ (by kernel_rfl) ?_; clear q_; (repeat (first | with_reducible refine tt ?_ | refine And.intro (by first | with_reducible assumption | kernel_rfl | omega | (simp only [inR, List.length_cons, List.length_nil]; omega)) ?_)))
    exact Eq.mp (by kernel_rfl) h
  · (show ?g208; have q_ : type_of% (px (G := ?g208) (by (conv => rhs; whnf); (repeat ((first | (apply sgA; with_reducible assumption) | (apply sgT; kernel_rfl) | apply sgP); (conv => rhs; whnf))); exact sgI)) := trivial; refine segM q_ (by kernel_rfl) ?_; clear q_; (repeat (first | with_reducible refine tt ?_ | refine And.intro (by first | with_reducible assumption | kernel_rfl | omega | (simp only [inR, List.length_cons, List.length_nil]; omega)) ?_)))
    refine callH hc [.ref 0, .ref 7] (LH ⟨b, at_, spot, state, row⟩ codes l rows) (by kernel_rfl) (by kernel_rfl) ⟨_, codes, l, rows, rfl, rfl, .inr (.inr ⟨cs, hb, ho, hsm, ha, hk, hs, ?_⟩)⟩
    (show ?g209; have q_ : type_of% (px (G := ?g209) (by (conv => rhs; whnf); (repeat ((first | (apply sgA; with_reducible assumption) | (apply sgT; kernel_rfl) | apply sgP); (conv => rhs; whnf))); exact sgI)) := trivial; refine segM q_ (by kernel_rfl) ?_; clear q_; (repeat (first | with_reducible refine tt ?_ | refine And.intro (by first | with_reducible assumption | kernel_rfl | omega | (simp only [inR, List.length_cons, List.length_nil]; omega)) ?_)))
    exact Eq.mp (by kernel_rfl) h
theorem s332 (B : Bs w h₀) : Sound prog w h₀ 332 14 ctRd := (sd332 (lev := 12) B f332 (consΓ (s346 B) noΓ)).imp t332
noncomputable def U318 : List (Str × SV) := [(sn "isinstance", .raw (.builtin "isinstance")), (sn "bytes", .raw (.type "bytes")), (sn "check_number", .raw (.ref 111)), (sn "NEW", I 0)]
theorem f318 : facts U318 [sn "self", sn "text", sn "names", sn "end_line"] [] [] (cl 37 0) := ⟨⟨by kernel_rfl, by kernel_rfl⟩, by kernel_rfl⟩
noncomputable def newL (b : Array UInt8) (l : List Str) : AH := NH l ++ [lnNs ⟨b, 0, 0, 0, 0⟩ 0 6, .inst 377 4, .list []]
noncomputable def ct318 : CT := fun args H K => ∃ (b : Array UInt8) (l : List Str), args = [.ref 5, .p (.bytes b), .ref 0, I (-1)] ∧ H = NH l ++ [.ns [], .inst 377 4] ∧ K (.p .none) (newL b l)
theorem t318 : ∀ args H K, ct318 args H K → ctD 14 [(111, ct111)] U318 [sn "self", sn "text", sn "names", sn "end_line"] [] [] (cl 37 0) [] args H K := by
  rintro args H K ⟨b, l, rfl, rfl, h⟩
  (show ?g210; have q_ : type_of% (px (G := ?g210) (by (conv => rhs; whnf); (repeat ((first | (apply sgA; with_reducible assumption) | (apply sgT; kernel_rfl) | apply sgP); (conv => rhs; whnf))); exact sgI)) := trivial; refine segM q_ (by kernel_rfl) ?_; clear q_; (repeat (first | with_reducible refine tt ?_ | refine And.intro (by first | with_reducible assumption | kernel_rfl | omega | (simp only [inR, List.length_cons, List.length_nil]; omega)) ?_)))
  exact Eq.mp (by kernel_rfl) h
theorem s318 (B : Bs w h₀) : Sound prog w h₀ 318 6 ct318 := (sd318 (lev := 4) B f318 (consΓ (s111 B) noΓ)).imp t318
noncomputable def ct377 : CT := fun args H K => ∃ (b : Array UInt8) (l : List Str), args = [.p (.bytes b), .ref 0, I (-1)] ∧ H = NH l ∧ K (.ref 5) (newL b l)
theorem lk377 (P : Params) : (K P).lookup 377 = some (clo (sn "Lines") 377 376 #[none, none, some (.str (sn "Lines") 663), some (.str (sn "Lines") 671), some (.builtin "object.__new__"), some (.bool true)]) := by kernel_rfl
theorem cf377 (P : Params) : (specialIn (K P) (.ref 377) "__call__", makesIn (K P) 377, findIn (K P) (.ref 377) "__init__", typeIn (K P) (.ref 318)) = (some (some (.builtin "type.__call__")), true, some (some (.ref 318)), some (.type "function")) := by kernel_rfl
theorem s377 (B : Bs w h₀) : Sound prog w h₀ 377 10 ct377 := by
  have c := cf377 w.params
  simp only [Prod.mk.injEq] at c
  refine (cls_sound B (lk377 _) c.1 c.2.1 c.2.2.1 c.2.2.2 (s318 B)).imp ?_
  rintro args H K ⟨b, l, rfl, rfl, h⟩
  exact ⟨b, l, rfl, rfl, rfl, h⟩
end

noncomputable def plTab : List (Int × Int) := [(92, 0), (123, 1), (125, 2), (36, 3), (38, 4), (13, 5), (35, 6), (94, 7), (95, 8), (0, 9), (32, 10), (126, 13), (37, 14), (127, 15)]
noncomputable def lawLet : Str := sn "abcdefghijklmnopqrstuvwxyzABCDEFGHIJKLMNOPQRSTUVWXYZ"
noncomputable def isLet (c : Int) : Bool := !(Builtin.Str.occurrences lawLet (ch1 c) 0 lawLet.length 1).isEmpty
noncomputable def catN (n : Nat) : Int := match getK (n : Int) plTab with
  | some v => v
  | none => if decide (n ∈ lawLet.cps.toList) = true then 11 else 12
theorem cat_tab : (List.range 256).map catN = plainRow := by kernel_rfl
noncomputable def catOf (ch : List (Int × Int)) (c : Int) : Int := (getK c ch).getD (plainRow.getD c.toNat 0)
theorem cat_at {c : Int} (h : 0 ≤ c ∧ c ≤ 255) : (match getK c plTab with | some v => v | none => if isLet c = true then 11 else 12) = plainRow.getD c.toNat 0 := by
  obtain ⟨n, rfl⟩ := Int.eq_ofNat_of_zero_le h.1
  have hn : n < 256 := by omega
  have hl : isLet (n : Int) = decide (n ∈ lawLet.cps.toList) := by
    unfold isLet ch1
    rw [Int.toNat_natCast]
    exact StrLaws.found_one _ _
  rw [hl, ← cat_tab, Int.toNat_natCast, List.getD_eq_getElem?_getD, List.getElem?_map, List.getElem?_range hn]
  rfl
section
variable {prog : Program} {w : World} {h₀ : Heap}
theorem f390 : facts [] [] [] [] (tl 41) := ⟨⟨by kernel_rfl, by kernel_rfl⟩, by kernel_rfl⟩
noncomputable def ct390 : CT := fun args H K => args = [] ∧ H = [] ∧ K (.ref 0) [.idict plTab]
theorem t390 : ∀ args H K, ct390 args H K → ctD 6 [] [] [] [] [] (tl 41) [] args H K := by
  rintro args H K ⟨rfl, rfl, h⟩
  (show ?g211; have q_ : type_of% (px (G := ?g211) (by (conv => rhs; whnf); (repeat ((first | (apply sgA; with_reducible assumption) | (apply sgT; kernel_rfl) | apply sgP); (conv => rhs; whnf))); exact sgI)) := trivial; refine segM q_ (by kernel_rfl) ?_; clear q_; (repeat (first | with_reducible refine tt ?_ | refine And.intro (by first | with_reducible assumption | kernel_rfl | omega | (simp only [inR, List.length_cons, List.length_nil]; omega)) ?_)))
  exact Eq.mp (by kernel_rfl) h
theorem s390 (B : Bs w h₀) : Sound prog w h₀ 390 2 ct390 := (sd390 (lev := 0) B f390 noΓ).imp t390
noncomputable def U409 : List (Str × SV) := [(sn "_law_plain", .raw (.ref 390)), (sn "_law_letters", T' lawLet), (sn "chr", .raw (.builtin "chr"))]
theorem f409 : facts U409 [sn "changes", sn "code"] [] [] (tl 45) := ⟨⟨by kernel_rfl, by kernel_rfl⟩, by kernel_rfl⟩
noncomputable def ct409 : CT := fun args H K => ∃ (ch : List (Int × Int)) (c : Int), args = [.ref 0, I c] ∧ H = [.idict ch] ∧ (0 ≤ c ∧ c ≤ 255) ∧ K (I (catOf ch c)) [.idict ch]
theorem t409 : ∀ args H K, ct409 args H K → ctD 9 [(390, ct390)] U409 [sn "changes", sn "code"] [] [] (tl 45) [] args H K := by
  rintro args H K ⟨ch, c, rfl, rfl, hc, h⟩
  have hcat := cat_at hc
  unfold catOf at h
  (show ?g212; have q_ : type_of% (px (G := ?g212) (by (conv => rhs; whnf); (repeat ((first | (apply sgA; with_reducible assumption) | (apply sgT; kernel_rfl) | apply sgP); (conv => rhs; whnf))); exact sgI)) := trivial; refine segM q_ (by kernel_rfl) ?_; clear q_; (repeat (first | with_reducible refine tt ?_ | refine And.intro (by first | with_reducible assumption | kernel_rfl | omega | (simp only [inR, List.length_cons, List.length_nil]; omega)) ?_)))
  refine drec (fun e => ?_) (fun e => ?_)
  · rw [hasK_getK] at e
    obtain ⟨v, hv⟩ := Option.isSome_iff_exists.mp e
    rw [hv] at h
    (show ?g213; have q_ : type_of% (px (G := ?g213) (by (conv => rhs; whnf); (repeat ((first | (apply sgA; with_reducible assumption) | (apply sgT; kernel_rfl) | apply sgP); (conv => rhs; whnf))); exact sgI)) := trivial; refine segM q_ (by kernel_rfl) ?_; clear q_; (repeat (first | with_reducible refine tt ?_ | refine And.intro (by first | with_reducible assumption | kernel_rfl | omega | (simp only [inR, List.length_cons, List.length_nil]; omega)) ?_)))
    rw [hv]
    (show ?g214; have q_ : type_of% (px (G := ?g214) (by (conv => rhs; whnf); (repeat ((first | (apply sgA; with_reducible assumption) | (apply sgT; kernel_rfl) | apply sgP); (conv => rhs; whnf))); exact sgI)) := trivial; refine segM q_ (by kernel_rfl) ?_; clear q_; (repeat (first | with_reducible refine tt ?_ | refine And.intro (by first | with_reducible assumption | kernel_rfl | omega | (simp only [inR, List.length_cons, List.length_nil]; omega)) ?_)))
    exact Eq.mp (by kernel_rfl) h
  · rw [hasK_getK] at e
    have hv : getK c ch = none := by
      cases q : getK c ch with
      | none => rfl
      | some v => rw [q] at e; cases e
    rw [hv] at h
    rw [← hcat] at h
    (show ?g215; have q_ : type_of% (px (G := ?g215) (by (conv => rhs; whnf); (repeat ((first | (apply sgA; with_reducible assumption) | (apply sgT; kernel_rfl) | apply sgP); (conv => rhs; whnf))); exact sgI)) := trivial; refine segM q_ (by kernel_rfl) ?_; clear q_; (repeat (first | with_reducible refine tt ?_ | refine And.intro (by first | with_reducible assumption | kernel_rfl | omega | (simp only [inR, List.length_cons, List.length_nil]; omega)) ?_)))
    refine drec (fun e2 => ?_) (fun e2 => ?_)
    · have e2 : hasK c plTab = true := e2
      rw [hasK_getK] at e2
      obtain ⟨v, hv⟩ := Option.isSome_iff_exists.mp e2
      rw [hv] at h
      (show ?g216; have q_ : type_of% (px (G := ?g216) (by (conv => rhs; whnf); (repeat ((first | (apply sgA; with_reducible assumption) | (apply sgT; kernel_rfl) | apply sgP); (conv => rhs; whnf))); exact sgI)) := trivial; refine segM q_ (by kernel_rfl) ?_; clear q_; (repeat (first | with_reducible refine tt ?_ | refine And.intro (by first | with_reducible assumption | kernel_rfl | omega | (simp only [inR, List.length_cons, List.length_nil]; omega)) ?_)))
      rw [hv]
      (show ?g217; have q_ : type_of% (px (G := ?g217) (by (conv => rhs; whnf); (repeat ((first | (apply sgA; with_reducible assumption) | (apply sgT; kernel_rfl) | apply sgP); (conv => rhs; whnf))); exact sgI)) := trivial; refine segM q_ (by kernel_rfl) ?_; clear q_; (repeat (first | with_reducible refine tt ?_ | refine And.intro (by first | with_reducible assumption | kernel_rfl | omega | (simp only [inR, List.length_cons, List.length_nil]; omega)) ?_)))
      exact Eq.mp (by kernel_rfl) h
    · have e2 : hasK c plTab = false := e2
      rw [hasK_getK] at e2
      have hv : getK c plTab = none := by
        cases q : getK c plTab with
        | none => rfl
        | some v => rw [q] at e2; cases e2
      rw [hv] at h
      (show ?g218; have q_ : type_of% (px (G := ?g218) (by (conv => rhs; whnf); (repeat ((first | (apply sgA; with_reducible assumption) | (apply sgT; kernel_rfl) | apply sgP); (conv => rhs; whnf))); exact sgI)) := trivial; refine segM q_ (by kernel_rfl) ?_; clear q_; (repeat (first | with_reducible refine tt ?_ | refine And.intro (by first | with_reducible assumption | kernel_rfl | omega | (simp only [inR, List.length_cons, List.length_nil]; omega)) ?_)))
      refine drec (fun e3 => ?_) (fun e3 => ?_)
      · have e3 : isLet c = true := e3
        rw [e3] at h
        (show ?g219; have q_ : type_of% (px (G := ?g219) (by (conv => rhs; whnf); (repeat ((first | (apply sgA; with_reducible assumption) | (apply sgT; kernel_rfl) | apply sgP); (conv => rhs; whnf))); exact sgI)) := trivial; refine segM q_ (by kernel_rfl) ?_; clear q_; (repeat (first | with_reducible refine tt ?_ | refine And.intro (by first | with_reducible assumption | kernel_rfl | omega | (simp only [inR, List.length_cons, List.length_nil]; omega)) ?_)))
        exact Eq.mp (by kernel_rfl) h
      · have e3 : isLet c = false := e3
        rw [e3] at h
        (show ?g220; have q_ : type_of% (px (G := ?g220) (by (conv => rhs; whnf); (repeat ((first | (apply sgA; with_reducible assumption) | (apply sgT; kernel_rfl) | apply sgP); (conv => rhs; whnf))); exact sgI)) := trivial; refine segM q_ (by kernel_rfl) ?_; clear q_; (repeat (first | with_reducible refine tt ?_ | refine And.intro (by first | with_reducible assumption | kernel_rfl | omega | (simp only [inR, List.length_cons, List.length_nil]; omega)) ?_)))
        exact Eq.mp (by kernel_rfl) h
theorem s409 (B : Bs w h₀) : Sound prog w h₀ 409 4 ct409 := (sd409 (lev := 2) B f409 (consΓ (s390 B) noΓ)).imp t409
noncomputable def U402 : List (Str × SV) := []
theorem f402 : facts [] [sn "box", sn "many"] [] [sn "digit", sn "mixed"] (tl 44) := ⟨⟨by kernel_rfl, by kernel_rfl⟩, by kernel_rfl⟩
noncomputable def boxPV (a b c : Int) : List PV := [.int a, .int b, .int c]
structure BoxOk (a b c : Int) : Prop where
  a : 0 ≤ a
  b : 0 ≤ b ∧ b < 1000000
  c : 0 ≤ c ∧ c < 1000003
noncomputable def ct402 : CT := fun args H K => ∃ (a b c m : Int), args = [.ref 0, I m] ∧ H = [.list (boxPV a b c)] ∧ BoxOk a b c ∧ (0 < m ∧ m ≤ 100) ∧ ∀ d a' b', (0 ≤ d ∧ d < m) → 0 ≤ a' → 0 ≤ b' → b' ≤ b + 1 → K (I d) [.list (boxPV a' b' c)]
theorem t402 : ∀ args H K, ct402 args H K → ctD 9 [] [] [sn "box", sn "many"] [] [sn "digit", sn "mixed"] (tl 44) [] args H K := by
  rintro args H K ⟨a, b, c, m, rfl, rfl, ⟨ha, hb, hc⟩, hm, h⟩
  have hP : Builtin.divisionGoesByPylong a m = false := PyProof.noPylong_small (by omega)
  have hlen : (boxPV a b c).length = 3 := rfl
  have hlen2 : ((boxPV a b c).set (Int.toNat 1) (.int (b + 1))).length = 3 := rfl
  have small : ∀ {x : Int}, x.natAbs < 2 ^ 64 → Builtin.Int.intBits x ≤ 64 := fun h => intBits_le_iff.mpr h
  (show ?g221; have q_ : type_of% (px (G := ?g221) (by (conv => rhs; whnf); (repeat ((first | (apply sgA; with_reducible assumption) | (apply sgT; kernel_rfl) | apply sgP); (conv => rhs; whnf))); exact sgI)) := trivial; refine segM q_ (by kernel_rfl) ?_; clear q_; (repeat (first | with_reducible refine tt ?_ | refine And.intro (by first | with_reducible assumption | kernel_rfl | omega | (simp only [inR, List.length_cons, List.length_nil]; omega)) ?_)))
  refine drec (fun e => ?_) (fun e => ?_)
  · (show ?g222; have q_ : type_of% (px (G := ?g222) (by (conv => rhs; whnf); (repeat ((first | (apply sgA; with_reducible assumption) | (apply sgT; kernel_rfl) | apply sgP); (conv => rhs; whnf))); exact sgI)) := trivial; refine segM q_ (by kernel_rfl) ?_; clear q_; (repeat (first | with_reducible refine tt ?_ | refine And.intro (by first | with_reducible assumption | kernel_rfl | omega | (simp only [inR, List.length_cons, List.length_nil]; omega)) ?_)))
    have h1 := h (a.fmod m) (a.fdiv m) b ⟨by rw [Int.fmod_eq_emod_of_nonneg _ (by omega)]; exact Int.emod_nonneg _ (by omega), by rw [Int.fmod_eq_emod_of_nonneg _ (by omega)]; exact Int.emod_lt_of_pos _ (by omega)⟩
      (by rw [Int.fdiv_eq_ediv_of_nonneg _ (by omega)]; exact Int.ediv_nonneg ha (by omega)) (by omega) (by omega)
    exact Eq.mp (by kernel_rfl) h1
  · have q1 : IntMulOk 7103 (b + 1) := IntMulOk.of_left (small (by decide))
    have q2 : 1 < c + 7103 * (b + 1) + 20023 := by omega
    have q3 : Builtin.Int.intTooBig ((Builtin.Int.intBits (c + 7103 * (b + 1) + 20023) : Nat) * 5) = false := by
      have : Builtin.Int.intBits (c + 7103 * (b + 1) + 20023) ≤ 64 := small (by omega)
      unfold Builtin.Int.intTooBig
      refine decide_eq_false (Int.not_lt.mpr (Int.le_trans (show ((Builtin.Int.intBits (c + 7103 * (b + 1) + 20023) : Nat) : Int) * 5 ≤ 320 by omega) (by decide)))
    (show ?g223; have q_ : type_of% (px (G := ?g223) (by (conv => rhs; whnf); (repeat ((first | (apply sgA; with_reducible assumption) | (apply sgT; kernel_rfl) | apply sgP); (conv => rhs; whnf))); exact sgI)) := trivial; refine segM q_ (by kernel_rfl) ?_; clear q_; (repeat (first | with_reducible refine tt ?_ | refine And.intro (by first | with_reducible assumption | kernel_rfl | omega | (simp only [inR, List.length_cons, List.length_nil]; omega)) ?_)))
    have hM0 : 0 ≤ ((c + 7103 * (b + 1) + 20023) ^ Int.toNat 5).fmod 2147483647 ∧ ((c + 7103 * (b + 1) + 20023) ^ Int.toNat 5).fmod 2147483647 < 2147483647 := by
      rw [Int.fmod_eq_emod_of_nonneg _ (by omega)]
      exact ⟨Int.emod_nonneg _ (by omega), Int.emod_lt_of_pos _ (by omega)⟩
    generalize ((c + 7103 * (b + 1) + 20023) ^ Int.toNat 5).fmod 2147483647 = M at hM0 ⊢
    have q4 : IntMulOk M M := IntMulOk.of_left (small (by omega))
    have q5 : Builtin.divisionGoesByPylong ((M * M).fmod 2147483563) 16 = false := PyProof.noPylong_small (by decide)
    refine ⟨q4, ?_⟩
    (show ?g224; have q_ : type_of% (px (G := ?g224) (by (conv => rhs; whnf); (repeat ((first | (apply sgA; with_reducible assumption) | (apply sgT; kernel_rfl) | apply sgP); (conv => rhs; whnf))); exact sgI)) := trivial; refine segM q_ (by kernel_rfl) ?_; clear q_; (repeat (first | with_reducible refine tt ?_ | refine And.intro (by first | with_reducible assumption | kernel_rfl | omega | (simp only [inR, List.length_cons, List.length_nil]; omega)) ?_)))
    have h1 := h ((((M * M).fmod 2147483563).fdiv 16).fmod m) a (b + 1) ⟨by rw [Int.fmod_eq_emod_of_nonneg _ (by omega)]; exact Int.emod_nonneg _ (by omega), by rw [Int.fmod_eq_emod_of_nonneg _ (by omega)]; exact Int.emod_lt_of_pos _ (by omega)⟩
      ha (by omega) (by omega)
    exact Eq.mp (by kernel_rfl) h1
theorem s402 (B : Bs w h₀) : Sound prog w h₀ 402 2 ct402 := (sd402 (lev := 0) B f402 noΓ).imp t402
noncomputable def U428 : List (Str × SV) := [(sn "chr", .raw (.builtin "chr")), (sn "len", .raw (.builtin "len")), (sn "_law_category", .raw (.ref 409)), (sn "ord", .raw (.builtin "ord"))]
theorem f428 : facts U428 [sn "token", sn "escape", sn "changes"] [] [sn "name", sn "bare"] (tl 48) := ⟨⟨by kernel_rfl, by kernel_rfl⟩, by kernel_rfl⟩
inductive LT where
  | ch (c x : Int)
  | nm (t : Str)
noncomputable def LT.pv : LT → PV
  | .ch c x => .tup [.int c, .int x]
  | .nm t => .tup [.int 0, .str t]
noncomputable def bareL (ch : List (Int × Int)) (t : Str) : Bool := match t.cps.toList with
  | [d] => !decide (catOf ch d = 11)
  | _ => false
noncomputable def wr (ch : List (Int × Int)) (esc : Int) : LT → Str
  | .ch _ x => ch1 x
  | .nm t => if bareL ch t = true then ch1 esc ++ t ++ sn "" else ch1 esc ++ t ++ sn " "
theorem wr_nm (ch : List (Int × Int)) (esc : Int) (t : Str) : wr ch esc (.nm t) = if bareL ch t = true then ch1 esc ++ t ++ sn "" else ch1 esc ++ t ++ sn " " := rfl
noncomputable def ltOk : LT → Prop
  | .ch c x => c ≠ 0 ∧ (0 ≤ x ∧ x ≤ 255)
  | .nm t => okName t
noncomputable def ct428 : CT := fun args H K => ∃ (ch : List (Int × Int)) (esc : Int) (t : LT), args = [.p t.pv, I esc, .ref 0] ∧ H = [.idict ch] ∧ (0 ≤ esc ∧ esc ≤ 255) ∧ ltOk t ∧ K (T' (wr ch esc t)) [.idict ch]
set_option tactic.hygienic true in
theorem t428 : ∀ args H K, ct428 args H K → ctD 9 [(409, ct409)] U428 [sn "token", sn "escape", sn "changes"] [] [sn "name", sn "bare"] (tl 48) [] args H K := by
  rintro args H K ⟨ch, esc, t, rfl, rfl, hesc, ht, h⟩
  cases t with
  | ch c x =>
    obtain ⟨h0, hx⟩ := ht
    (show ?g225; have q_ : type_of% (px (G := ?g225) (by (conv => rhs; whnf); (repeat ((first | (apply sgA; with_reducible assumption) | (apply sgT; kernel_rfl) | apply sgP); (conv => rhs; whnf))); exact sgI)) := trivial; refine segM q_ (by kernel_rfl) ?_; clear q_; (repeat (first | with_reducible refine tt ?_ | refine And.intro (by first | with_reducible assumption | kernel_rfl | omega | (simp only [inR, List.length_cons, List.length_nil]; omega)) ?_)))
    refine drec (fun _z => ?_) (fun e => absurd (show (!decide (c = 0)) = false from e) (by simp [h0]))
    (show ?g226; have q_ : type_of% (px (G := ?g226) (by (conv => rhs; whnf); (repeat ((first | (apply sgA; with_reducible assumption) | (apply sgT; kernel_rfl) | apply sgP); (conv => rhs; whnf))); exact sgI)) := trivial; refine segM q_ (by kernel_rfl) ?_; clear q_; (repeat (first | with_reducible refine tt ?_ | refine And.intro (by first | with_reducible assumption | kernel_rfl | omega | (simp only [inR, List.length_cons, List.length_nil]; omega)) ?_)))
    exact Eq.mp (by kernel_rfl) h
  | nm t =>
    obtain ⟨ht1, ht2, ht3⟩ := ht
    by_cases hs : t.length = 1
    · obtain ⟨d, rfl⟩ : ∃ d, t = ⟨#[d]⟩ := by
        obtain ⟨cps⟩ := t
        obtain ⟨d, hd⟩ := Array.size_eq_one_iff.mp (show cps.size = 1 from hs)
        exact ⟨d, by rw [hd]⟩
      have hd : d ≤ 255 := ht1 d (by simp)
      (show ?g227; have q_ : type_of% (px (G := ?g227) (by (conv => rhs; whnf); (repeat ((first | (apply sgA; with_reducible assumption) | (apply sgT; kernel_rfl) | apply sgP); (conv => rhs; whnf))); exact sgI)) := trivial; refine segM q_ (by kernel_rfl) ?_; clear q_; (repeat (first | with_reducible refine tt ?_ | refine And.intro (by first | with_reducible assumption | kernel_rfl | omega | (simp only [inR, List.length_cons, List.length_nil]; omega)) ?_)))
      refine ex2 ch d ⟨by kernel_rfl, by kernel_rfl, by omega, ?_⟩
      (show ?g228; have q_ : type_of% (px (G := ?g228) (by (conv => rhs; whnf); (repeat ((first | (apply sgA; with_reducible assumption) | (apply sgT; kernel_rfl) | apply sgP); (conv => rhs; whnf))); exact sgI)) := trivial; refine segM q_ (by kernel_rfl) ?_; clear q_; (repeat (first | with_reducible refine tt ?_ | refine And.intro (by first | with_reducible assumption | kernel_rfl | omega | (simp only [inR, List.length_cons, List.length_nil]; omega)) ?_)))
      refine ⟨Nat.le_trans (show 1 + 1 ≤ 1000 by omega) (by decide), ?_⟩
      (show ?g229; have q_ : type_of% (px (G := ?g229) (by (conv => rhs; whnf); (repeat ((first | (apply sgA; with_reducible assumption) | (apply sgT; kernel_rfl) | apply sgP); (conv => rhs; whnf))); exact sgI)) := trivial; refine segM q_ (by kernel_rfl) ?_; clear q_; (repeat (first | with_reducible refine tt ?_ | refine And.intro (by first | with_reducible assumption | kernel_rfl | omega | (simp only [inR, List.length_cons, List.length_nil]; omega)) ?_)))
      have hb : bareL ch ⟨#[d]⟩ = !decide (catOf ch d = 11) := rfl
      rw [wr_nm] at h
      refine drec (fun e => ?_) (fun e => ?_)
      · have e : (!decide (catOf ch d = 11)) = true := e
        rw [hb, e] at h
        (show ?g230; have q_ : type_of% (px (G := ?g230) (by (conv => rhs; whnf); (repeat ((first | (apply sgA; with_reducible assumption) | (apply sgT; kernel_rfl) | apply sgP); (conv => rhs; whnf))); exact sgI)) := trivial; refine segM q_ (by kernel_rfl) ?_; clear q_; (repeat (first | with_reducible refine tt ?_ | refine And.intro (by first | with_reducible assumption | kernel_rfl | omega | (simp only [inR, List.length_cons, List.length_nil]; omega)) ?_)))
        refine ⟨Nat.le_trans (show ((ch1 esc ++ (⟨#[d]⟩ : Str)).length + (sn "").length ≤ 1000) by rw [Str.length_append]; show 1 + 1 + 0 ≤ 1000; omega) (by decide), ?_⟩
        (show ?g231; have q_ : type_of% (px (G := ?g231) (by (conv => rhs; whnf); (repeat ((first | (apply sgA; with_reducible assumption) | (apply sgT; kernel_rfl) | apply sgP); (conv => rhs; whnf))); exact sgI)) := trivial; refine segM q_ (by kernel_rfl) ?_; clear q_; (repeat (first | with_reducible refine tt ?_ | refine And.intro (by first | with_reducible assumption | kernel_rfl | omega | (simp only [inR, List.length_cons, List.length_nil]; omega)) ?_)))
        exact Eq.mp (by kernel_rfl) h
      · have e : (!decide (catOf ch d = 11)) = false := e
        rw [hb, e] at h
        (show ?g232; have q_ : type_of% (px (G := ?g232) (by (conv => rhs; whnf); (repeat ((first | (apply sgA; with_reducible assumption) | (apply sgT; kernel_rfl) | apply sgP); (conv => rhs; whnf))); exact sgI)) := trivial; refine segM q_ (by kernel_rfl) ?_; clear q_; (repeat (first | with_reducible refine tt ?_ | refine And.intro (by first | with_reducible assumption | kernel_rfl | omega | (simp only [inR, List.length_cons, List.length_nil]; omega)) ?_)))
        refine ⟨Nat.le_trans (show ((ch1 esc ++ (⟨#[d]⟩ : Str)).length + (sn " ").length ≤ 1000) by rw [Str.length_append]; show 1 + 1 + 1 ≤ 1000; omega) (by decide), ?_⟩
        (show ?g233; have q_ : type_of% (px (G := ?g233) (by (conv => rhs; whnf); (repeat ((first | (apply sgA; with_reducible assumption) | (apply sgT; kernel_rfl) | apply sgP); (conv => rhs; whnf))); exact sgI)) := trivial; refine segM q_ (by kernel_rfl) ?_; clear q_; (repeat (first | with_reducible refine tt ?_ | refine And.intro (by first | with_reducible assumption | kernel_rfl | omega | (simp only [inR, List.length_cons, List.length_nil]; omega)) ?_)))
        exact Eq.mp (by kernel_rfl) h
    · (show ?g234; have q_ : type_of% (px (G := ?g234) (by (conv => rhs; whnf); (repeat ((first | (apply sgA; with_reducible assumption) | (apply sgT; kernel_rfl) | apply sgP); (conv => rhs; whnf))); exact sgI)) := trivial; refine segM q_ (by kernel_rfl) ?_; clear q_; (repeat (first | with_reducible refine tt ?_ | refine And.intro (by first | with_reducible assumption | kernel_rfl | omega | (simp only [inR, List.length_cons, List.length_nil]; omega)) ?_)))
      refine drecG (fun e => ?_) (fun e => absurd (show decide ((t.length : Int) = 1) = false by simp; omega) e)
      have e : decide ((t.length : Int) = 1) = false := e
      (show ?g235; have q_ : type_of% (px (G := ?g235) (by (conv => rhs; whnf); (repeat ((first | (apply sgA; with_reducible assumption) | (apply sgT; kernel_rfl) | apply sgP); (conv => rhs; whnf))); exact sgI)) := trivial; refine segM q_ (by kernel_rfl) ?_; clear q_; (repeat (first | with_reducible refine tt ?_ | refine And.intro (by first | with_reducible assumption | kernel_rfl | omega | (simp only [inR, List.length_cons, List.length_nil]; omega)) ?_)))
      refine ⟨Nat.le_trans (show 1 + t.length ≤ 1000 by omega) (by decide), ?_⟩
      (show ?g236; have q_ : type_of% (px (G := ?g236) (by (conv => rhs; whnf); (repeat ((first | (apply sgA; with_reducible assumption) | (apply sgT; kernel_rfl) | apply sgP); (conv => rhs; whnf))); exact sgI)) := trivial; refine segM q_ (by kernel_rfl) ?_; clear q_; (repeat (first | with_reducible refine tt ?_ | refine And.intro (by first | with_reducible assumption | kernel_rfl | omega | (simp only [inR, List.length_cons, List.length_nil]; omega)) ?_)))
      refine drec (fun e2 => absurd (e.symm.trans e2) (by decide)) (fun _z => ?_)
      (show ?g237; have q_ : type_of% (px (G := ?g237) (by (conv => rhs; whnf); (repeat ((first | (apply sgA; with_reducible assumption) | (apply sgT; kernel_rfl) | apply sgP); (conv => rhs; whnf))); exact sgI)) := trivial; refine segM q_ (by kernel_rfl) ?_; clear q_; (repeat (first | with_reducible refine tt ?_ | refine And.intro (by first | with_reducible assumption | kernel_rfl | omega | (simp only [inR, List.length_cons, List.length_nil]; omega)) ?_)))
      refine ⟨Nat.le_trans (show ((ch1 esc ++ t).length + (sn " ").length ≤ 1000) by rw [Str.length_append]; show 1 + t.length + 1 ≤ 1000; omega) (by decide), ?_⟩
      (show ?g238; have q_ : type_of% (px (G := ?g238) (by (conv => rhs; whnf); (repeat ((first | (apply sgA; with_reducible assumption) | (apply sgT; kernel_rfl) | apply sgP); (conv => rhs; whnf))); exact sgI)) := trivial; refine segM q_ (by kernel_rfl) ?_; clear q_; (repeat (first | with_reducible refine tt ?_ | refine And.intro (by first | with_reducible assumption | kernel_rfl | omega | (simp only [inR, List.length_cons, List.length_nil]; omega)) ?_)))
      have hb : bareL ch t = false := by
        unfold bareL
        split
        · rename_i d q
          exfalso; apply hs
          have := congrArg List.length q
          simpa [Str.length] using this
        · rfl
      rw [wr_nm] at h
      rw [hb] at h
      exact Eq.mp (by kernel_rfl) h
theorem s428 (B : Bs w h₀) : Sound prog w h₀ 428 6 ct428 := (sd428 (lev := 4) B f428 (consΓ (s409 B) noΓ)).imp t428
noncomputable def U395 : List (Str × SV) := [(sn "len", .raw (.builtin "len")), (sn "abs", .raw (.builtin "abs")), (sn "int", .raw (.type "int")), (sn "sum", .raw (.builtin "sum"))]
theorem f395 : facts U395 [sn "script", sn "k"] [] [sn "cell"] (tl 43) := ⟨⟨by kernel_rfl, by kernel_rfl⟩, by kernel_rfl⟩
noncomputable def ct395 : CT := fun args H K => ∃ (sc : List Int) (k : Nat), args = [.ref 0, I k] ∧ H = [.list (intPV sc)] ∧ sc.length ≤ 63 ∧ k ≤ 5 ∧ ∀ a c, 0 ≤ a → (0 ≤ c ∧ c < 1000003) → K (.ref 1) [.list (intPV sc), .list (boxPV a 0 c)]
theorem intsOf_intPV : ∀ l : List Int, intsOf (intPV l) = some l
  | [] => rfl
  | x :: r => by
    have := intsOf_intPV r
    unfold intPV at this ⊢
    simp [intsOf, this]
theorem t395 : ∀ args H K, ct395 args H K → ctD 9 [] U395 [sn "script", sn "k"] [] [sn "cell"] (tl 43) [] args H K := by
  rintro args H K ⟨sc, k, rfl, rfl, hl, hk, h⟩
  have hL := intPV_len sc
  (show ?g239; have q_ : type_of% (px (G := ?g239) (by (conv => rhs; whnf); (repeat ((first | (apply sgA; with_reducible assumption) | (apply sgT; kernel_rfl) | apply sgP); (conv => rhs; whnf))); exact sgI)) := trivial; refine segM q_ (by kernel_rfl) ?_; clear q_; (repeat (first | with_reducible refine tt ?_ | refine And.intro (by first | with_reducible assumption | kernel_rfl | omega | (simp only [inR, List.length_cons, List.length_nil]; omega)) ?_)))
  refine drec (fun e => ?_) (fun e => ?_)
  · have hlt : k < sc.length := by have := of_decide_eq_true (show decide ((k : Int) < ((intPV sc).length : Int)) = true from e); omega
    obtain ⟨d, hd⟩ : ∃ d, sc[k]? = some d := ⟨_, List.getElem?_eq_getElem hlt⟩
    (show ?g240; have q_ : type_of% (px (G := ?g240) (by (conv => rhs; whnf); (repeat ((first | (apply sgA; with_reducible assumption) | (apply sgT; kernel_rfl) | apply sgP); (conv => rhs; whnf))); exact sgI)) := trivial; refine segM q_ (by kernel_rfl) ?_; clear q_; (repeat (first | with_reducible refine tt ?_ | refine And.intro (by first | with_reducible assumption | kernel_rfl | omega | (simp only [inR, List.length_cons, List.length_nil]; omega)) ?_)))
    rw [ixL_nat rfl hd]
    (show ?g241; have q_ : type_of% (px (G := ?g241) (by (conv => rhs; whnf); (repeat ((first | (apply sgA; with_reducible assumption) | (apply sgT; kernel_rfl) | apply sgP); (conv => rhs; whnf))); exact sgI)) := trivial; refine segM q_ (by kernel_rfl) ?_; clear q_; (repeat (first | with_reducible refine tt ?_ | refine And.intro (by first | with_reducible assumption | kernel_rfl | omega | (simp only [inR, List.length_cons, List.length_nil]; omega)) ?_)))
    have h1 := h d.natAbs ((d.natAbs : Int).fmod 1000003) (by omega) (by rw [Int.fmod_eq_emod_of_nonneg _ (by omega)]; exact ⟨Int.emod_nonneg _ (by omega), Int.emod_lt_of_pos _ (by omega)⟩)
    exact Eq.mp (by kernel_rfl) h1
  · have qm : IntMulOk 7919 k := IntMulOk.of_left (intBits_le_iff.mpr (by decide))
    (show ?g242; have q_ : type_of% (px (G := ?g242) (by (conv => rhs; whnf); (repeat ((first | (apply sgA; with_reducible assumption) | (apply sgT; kernel_rfl) | apply sgP); (conv => rhs; whnf))); exact sgI)) := trivial; refine segM q_ (by kernel_rfl) ?_; clear q_; (repeat (first | with_reducible refine tt ?_ | refine And.intro (by first | with_reducible assumption | kernel_rfl | omega | (simp only [inR, List.length_cons, List.length_nil]; omega)) ?_)))
    refine ⟨intPV sc, by kernel_rfl, ?_⟩
    refine compK_ind (fun l acc H => ∃ (rest done : List Int), l = intPV rest ∧ acc = intPV done ∧ done.length + rest.length ≤ 63 ∧ (∀ x ∈ done, 0 ≤ x) ∧ H = [.hid]) ?_ ?_ _ _ _ ⟨sc, [], rfl, rfl, by simpa using hl, by simp, by kernel_rfl⟩
    · rintro i r acc H Kt ⟨rest, done, e1, rfl, e2, e3, rfl⟩ hk2
      cases rest with
      | nil => cases e1
      | cons x rest =>
        cases e1
        (show ?g243; have q_ : type_of% (px (G := ?g243) (by (conv => rhs; whnf); (repeat ((first | (apply sgA; with_reducible assumption) | (apply sgT; kernel_rfl) | apply sgP); (conv => rhs; whnf))); exact sgI)) := trivial; refine segM q_ (by kernel_rfl) ?_; clear q_; (repeat (first | with_reducible refine tt ?_ | refine And.intro (by first | with_reducible assumption | kernel_rfl | omega | (simp only [inR, List.length_cons, List.length_nil]; omega)) ?_)))
        refine ⟨by rw [intPV_len]; simp at e2; omega, ?_⟩
        (show ?g244; have q_ : type_of% (px (G := ?g244) (by (conv => rhs; whnf); (repeat ((first | (apply sgA; with_reducible assumption) | (apply sgT; kernel_rfl) | apply sgP); (conv => rhs; whnf))); exact sgI)) := trivial; refine segM q_ (by kernel_rfl) ?_; clear q_; (repeat (first | with_reducible refine tt ?_ | refine And.intro (by first | with_reducible assumption | kernel_rfl | omega | (simp only [inR, List.length_cons, List.length_nil]; omega)) ?_)))
        refine hk2 _ _ ⟨rest, done ++ [(x.natAbs : Int)], rfl, ?_, by simp at e2 ⊢; omega, ?_, by kernel_rfl⟩
        · unfold intPV
          rw [List.map_append]
          rfl
        · intro y hy
          rcases List.mem_append.mp hy with hy | hy
          · exact e3 y hy
          · simp at hy; omega
    · rintro acc H ⟨rest, done, e1, rfl, e2, e3, rfl⟩
      (show ?g245; have q_ : type_of% (px (G := ?g245) (by (conv => rhs; whnf); (repeat ((first | (apply sgA; with_reducible assumption) | (apply sgT; kernel_rfl) | apply sgP); (conv => rhs; whnf))); exact sgI)) := trivial; refine segM q_ (by kernel_rfl) ?_; clear q_; (repeat (first | with_reducible refine tt ?_ | refine And.intro (by first | with_reducible assumption | kernel_rfl | omega | (simp only [inR, List.length_cons, List.length_nil]; omega)) ?_)))
      rw [intsOf_intPV]
      (show ?g246; have q_ : type_of% (px (G := ?g246) (by (conv => rhs; whnf); (repeat ((first | (apply sgA; with_reducible assumption) | (apply sgT; kernel_rfl) | apply sgP); (conv => rhs; whnf))); exact sgI)) := trivial; refine segM q_ (by kernel_rfl) ?_; clear q_; (repeat (first | with_reducible refine tt ?_ | refine And.intro (by first | with_reducible assumption | kernel_rfl | omega | (simp only [inR, List.length_cons, List.length_nil]; omega)) ?_)))
      have h0 : 0 ≤ 7919 * (k : Int) + 20011 + done.sum.fmod 99991 := by
        rw [Int.fmod_eq_emod_of_nonneg _ (by omega)]
        have := Int.emod_nonneg done.sum (show (99991 : Int) ≠ 0 by omega)
        omega
      have h1 := h (7919 * (k : Int) + 20011 + done.sum.fmod 99991) ((7919 * (k : Int) + 20011 + done.sum.fmod 99991).fmod 1000003) h0 (by rw [Int.fmod_eq_emod_of_nonneg _ (by omega)]; exact ⟨Int.emod_nonneg _ (by omega), Int.emod_lt_of_pos _ (by omega)⟩)
      exact Eq.mp (by kernel_rfl) h1
theorem s395 (B : Bs w h₀) : Sound prog w h₀ 395 2 ct395 := (sd395 (lev := 0) B f395 noΓ).imp t395
end

noncomputable def pool : List Int := [97, 98, 99, 64, 33, 123, 125, 36, 38, 35, 94, 95, 126, 49, 200]
noncomputable def marks : List Int := [32, 37, 92, 124, 0, 127, 13, 48, 255]
theorem pool_tv : tv382.map absP = intPV pool := by kernel_rfl
theorem marks_tv : tv383.map absP = intPV marks := by kernel_rfl
inductive Drawn (ch : List (Int × Int)) : LT → Prop
  | char {c : Int} : c ∈ pool → Drawn ch (.ch (catOf ch c) c)
  | name {cs : List Int} : cs ≠ [] → cs.length ≤ 3 → (∀ c ∈ cs, (c ∈ pool ∧ catOf ch c = 11) ∨ c = 120) → Drawn ch (.nm (strOf cs))
  | one {c : Int} : c ∈ pool ∨ c ∈ marks → Drawn ch (.nm (strOf [c]))
  | space : Drawn ch (.ch 10 32)
theorem pool_oct {c : Int} (h : c ∈ pool) : 0 ≤ c ∧ c ≤ 255 := by revert c; decide
theorem marks_oct {c : Int} (h : c ∈ marks) : 0 ≤ c ∧ c ≤ 255 := by revert c; decide
theorem cat_strOf : ∀ cs : List Int, cat (cs.map ch1) = strOf cs
  | [] => rfl
  | c :: r => by
    show ch1 c ++ cat (r.map ch1) = _
    rw [cat_strOf r]
    unfold strOf ch1
    show Str.append _ _ = _
    simp [Str.append]
section
variable {prog : Program} {w : World} {h₀ : Heap}
noncomputable def U414 : List (Str × SV) := [(sn "_law_take", .raw (.ref 402)), (sn "_law_category", .raw (.ref 409)), (sn "_law_pool", absV (.ref 382)), (sn "_law_marks", absV (.ref 383)), (sn "chr", .raw (.builtin "chr")), (sn "len", .raw (.builtin "len"))]
theorem f414 : facts U414 [sn "box", sn "changes"] [sn "changes", sn "usable"] [sn "way", sn "one", sn "two", sn "usable"] (tl 46) := ⟨⟨by kernel_rfl, by kernel_rfl⟩, by kernel_rfl⟩
noncomputable def ct414 : CT := fun args H K => ∃ (a b c : Int) (ch : List (Int × Int)), args = [.ref 0, .ref 1] ∧ H = [.list (boxPV a b c), .idict ch] ∧ BoxOk a b c ∧ b < 900000 ∧ ∀ t a' b', Drawn ch t → 0 ≤ a' → 0 ≤ b' → b' ≤ b + 3 → K (.p t.pv) [.list (boxPV a' b' c), .idict ch]
theorem t414 : ∀ args H K, ct414 args H K → ctD 12 [(402, ct402), (409, ct409)] U414 [sn "box", sn "changes"] [sn "changes", sn "usable"] [sn "way", sn "one", sn "two", sn "usable"] (tl 46) [] args H K := by
  rintro args H K ⟨a, b, c, ch, rfl, rfl, hb, hb9, h⟩
  (show ?g247; have q_ : type_of% (px (G := ?g247) (by (conv => rhs; whnf); (repeat ((first | (apply sgA; with_reducible assumption) | (apply sgT; kernel_rfl) | apply sgP); (conv => rhs; whnf))); exact sgI)) := trivial; refine segM q_ (by kernel_rfl) ?_; clear q_; (repeat (first | with_reducible refine tt ?_ | refine And.intro (by first | with_reducible assumption | kernel_rfl | omega | (simp only [inR, List.length_cons, List.length_nil]; omega)) ?_)))
  refine ex4 a b c 10 ⟨by kernel_rfl, by kernel_rfl, hb, by omega, fun way a1 b1 hway ha1 hb1 hb1' => ?_⟩
  (show ?g248; have q_ : type_of% (px (G := ?g248) (by (conv => rhs; whnf); (repeat ((first | (apply sgA; with_reducible assumption) | (apply sgT; kernel_rfl) | apply sgP); (conv => rhs; whnf))); exact sgI)) := trivial; refine segM q_ (by kernel_rfl) ?_; clear q_; (repeat (first | with_reducible refine tt ?_ | refine And.intro (by first | with_reducible assumption | kernel_rfl | omega | (simp only [inR, List.length_cons, List.length_nil]; omega)) ?_)))
  refine ex4 a1 b1 c 15 ⟨by kernel_rfl, by kernel_rfl, ⟨ha1, by omega, hb.c⟩, by omega, fun one a2 b2 hone ha2 hb2 hb2' => ?_⟩
  (show ?g249; have q_ : type_of% (px (G := ?g249) (by (conv => rhs; whnf); (repeat ((first | (apply sgA; with_reducible assumption) | (apply sgT; kernel_rfl) | apply sgP); (conv => rhs; whnf))); exact sgI)) := trivial; refine segM q_ (by kernel_rfl) ?_; clear q_; (repeat (first | with_reducible refine tt ?_ | refine And.intro (by first | with_reducible assumption | kernel_rfl | omega | (simp only [inR, List.length_cons, List.length_nil]; omega)) ?_)))
  refine ex4 a2 b2 c 15 ⟨by kernel_rfl, by kernel_rfl, ⟨ha2, by omega, hb.c⟩, by omega, fun two a3 b3 htwo ha3 hb3 hb3' => ?_⟩
  have h := fun t ht => h t a3 b3 ht ha3 hb3 (by omega)
  (show ?g250; have q_ : type_of% (px (G := ?g250) (by (conv => rhs; whnf); (repeat ((first | (apply sgA; with_reducible assumption) | (apply sgT; kernel_rfl) | apply sgP); (conv => rhs; whnf))); exact sgI)) := trivial; refine segM q_ (by kernel_rfl) ?_; clear q_; (repeat (first | with_reducible refine tt ?_ | refine And.intro (by first | with_reducible assumption | kernel_rfl | omega | (simp only [inR, List.length_cons, List.length_nil]; omega)) ?_)))
  obtain ⟨pc, hpc⟩ : ∃ pc, pool[one.toNat]? = some pc := ⟨_, List.getElem?_eq_getElem (show one.toNat < 15 by omega)⟩
  have hpm := List.mem_of_getElem? hpc
  have ixp : ixL one (tv382.map absP) = some (.int pc) := by rw [pool_tv]; exact ixL_int hone.1 hpc
  have hpo := pool_oct hpm
  refine drec (fun e4 => ?_) (fun e4 => ?_)
  · (show ?g251; have q_ : type_of% (px (G := ?g251) (by (conv => rhs; whnf); (repeat ((first | (apply sgA; with_reducible assumption) | (apply sgT; kernel_rfl) | apply sgP); (conv => rhs; whnf))); exact sgI)) := trivial; refine segM q_ (by kernel_rfl) ?_; clear q_; (repeat (first | with_reducible refine tt ?_ | refine And.intro (by first | with_reducible assumption | kernel_rfl | omega | (simp only [inR, List.length_cons, List.length_nil]; omega)) ?_)))
    rw [ixp]
    (show ?g252; have q_ : type_of% (px (G := ?g252) (by (conv => rhs; whnf); (repeat ((first | (apply sgA; with_reducible assumption) | (apply sgT; kernel_rfl) | apply sgP); (conv => rhs; whnf))); exact sgI)) := trivial; refine segM q_ (by kernel_rfl) ?_; clear q_; (repeat (first | with_reducible refine tt ?_ | refine And.intro (by first | with_reducible assumption | kernel_rfl | omega | (simp only [inR, List.length_cons, List.length_nil]; omega)) ?_)))
    refine ex2 ch pc ⟨by kernel_rfl, by kernel_rfl, hpo, ?_⟩
    (show ?g253; have q_ : type_of% (px (G := ?g253) (by (conv => rhs; whnf); (repeat ((first | (apply sgA; with_reducible assumption) | (apply sgT; kernel_rfl) | apply sgP); (conv => rhs; whnf))); exact sgI)) := trivial; refine segM q_ (by kernel_rfl) ?_; clear q_; (repeat (first | with_reducible refine tt ?_ | refine And.intro (by first | with_reducible assumption | kernel_rfl | omega | (simp only [inR, List.length_cons, List.length_nil]; omega)) ?_)))
    rw [ixp]
    (show ?g254; have q_ : type_of% (px (G := ?g254) (by (conv => rhs; whnf); (repeat ((first | (apply sgA; with_reducible assumption) | (apply sgT; kernel_rfl) | apply sgP); (conv => rhs; whnf))); exact sgI)) := trivial; refine segM q_ (by kernel_rfl) ?_; clear q_; (repeat (first | with_reducible refine tt ?_ | refine And.intro (by first | with_reducible assumption | kernel_rfl | omega | (simp only [inR, List.length_cons, List.length_nil]; omega)) ?_)))
    exact Eq.mp (by kernel_rfl) (h _ (.char hpm))
  · (show ?g255; have q_ : type_of% (px (G := ?g255) (by (conv => rhs; whnf); (repeat ((first | (apply sgA; with_reducible assumption) | (apply sgT; kernel_rfl) | apply sgP); (conv => rhs; whnf))); exact sgI)) := trivial; refine segM q_ (by kernel_rfl) ?_; clear q_; (repeat (first | with_reducible refine tt ?_ | refine And.intro (by first | with_reducible assumption | kernel_rfl | omega | (simp only [inR, List.length_cons, List.length_nil]; omega)) ?_)))
    refine drec (fun e7 => ?_) (fun e7 => ?_)
    · (show ?g256; have q_ : type_of% (px (G := ?g256) (by (conv => rhs; whnf); (repeat ((first | (apply sgA; with_reducible assumption) | (apply sgT; kernel_rfl) | apply sgP); (conv => rhs; whnf))); exact sgI)) := trivial; refine segM q_ (by kernel_rfl) ?_; clear q_; (repeat (first | with_reducible refine tt ?_ | refine And.intro (by first | with_reducible assumption | kernel_rfl | omega | (simp only [inR, List.length_cons, List.length_nil]; omega)) ?_)))
      refine ⟨intPV pool, by kernel_rfl, ?_⟩
      refine compK_ind (fun l acc H => ∃ (rest done : List Int), l = intPV rest ∧ acc = intPV done ∧ done.length + rest.length ≤ 15 ∧ (∀ x ∈ rest, x ∈ pool) ∧ (∀ x ∈ done, x ∈ pool ∧ catOf ch x = 11) ∧ H = [.list (boxPV a3 b3 c), .idict ch]) ?_ ?_ _ _ _
        ⟨pool, [], rfl, rfl, by decide, fun _z h => h, by simp, by kernel_rfl⟩
      · rintro i r acc H Kt ⟨rest, done, q1, rfl, q2, q3, q4, rfl⟩ hk2
        cases rest with
        | nil => cases q1
        | cons x rest =>
          cases q1
          have hx := q3 x (.head _)
          (show ?g257; have q_ : type_of% (px (G := ?g257) (by (conv => rhs; whnf); (repeat ((first | (apply sgA; with_reducible assumption) | (apply sgT; kernel_rfl) | apply sgP); (conv => rhs; whnf))); exact sgI)) := trivial; refine segM q_ (by kernel_rfl) ?_; clear q_; (repeat (first | with_reducible refine tt ?_ | refine And.intro (by first | with_reducible assumption | kernel_rfl | omega | (simp only [inR, List.length_cons, List.length_nil]; omega)) ?_)))
          refine ex2 ch x ⟨by kernel_rfl, by kernel_rfl, pool_oct hx, ?_⟩
          (show ?g258; have q_ : type_of% (px (G := ?g258) (by (conv => rhs; whnf); (repeat ((first | (apply sgA; with_reducible assumption) | (apply sgT; kernel_rfl) | apply sgP); (conv => rhs; whnf))); exact sgI)) := trivial; refine segM q_ (by kernel_rfl) ?_; clear q_; (repeat (first | with_reducible refine tt ?_ | refine And.intro (by first | with_reducible assumption | kernel_rfl | omega | (simp only [inR, List.length_cons, List.length_nil]; omega)) ?_)))
          have yes : catOf ch x = 11 → Kt (intPV done ++ [.int x]) [.list (boxPV a3 b3 c), .idict ch] := fun e => by
            refine hk2 _ _ ⟨rest, done ++ [x], rfl, ?_, by simp at q2 ⊢; omega, fun y hy => q3 y (.tail _ hy), ?_, rfl⟩
            · unfold intPV
              rw [List.map_append]
              rfl
            · intro y hy
              rcases List.mem_append.mp hy with hy | hy
              · exact q4 y hy
              · simp at hy; subst hy; exact ⟨hx, e⟩
          have no : Kt (intPV done) [.list (boxPV a3 b3 c), .idict ch] := hk2 _ _ ⟨rest, done, rfl, rfl, by simp at q2 ⊢; omega, fun y hy => q3 y (.tail _ hy), q4, rfl⟩
          refine drecG (fun e => ?_) (fun e => ?_)
          · (show ?g259; have q_ : type_of% (px (G := ?g259) (by (conv => rhs; whnf); (repeat ((first | (apply sgA; with_reducible assumption) | (apply sgT; kernel_rfl) | apply sgP); (conv => rhs; whnf))); exact sgI)) := trivial; refine segM q_ (by kernel_rfl) ?_; clear q_; (repeat (first | with_reducible refine tt ?_ | refine And.intro (by first | with_reducible assumption | kernel_rfl | omega | (simp only [inR, List.length_cons, List.length_nil]; omega)) ?_)))
            refine drec (fun e' => ?_) (fun e' => ?_)
            · exact absurd (e'.symm.trans e) (by decide)
            · (show ?g260; have q_ : type_of% (px (G := ?g260) (by (conv => rhs; whnf); (repeat ((first | (apply sgA; with_reducible assumption) | (apply sgT; kernel_rfl) | apply sgP); (conv => rhs; whnf))); exact sgI)) := trivial; refine segM q_ (by kernel_rfl) ?_; clear q_; (repeat (first | with_reducible refine tt ?_ | refine And.intro (by first | with_reducible assumption | kernel_rfl | omega | (simp only [inR, List.length_cons, List.length_nil]; omega)) ?_)))
              exact Eq.mp (by kernel_rfl) no
          · (show ?g261; have q_ : type_of% (px (G := ?g261) (by (conv => rhs; whnf); (repeat ((first | (apply sgA; with_reducible assumption) | (apply sgT; kernel_rfl) | apply sgP); (conv => rhs; whnf))); exact sgI)) := trivial; refine segM q_ (by kernel_rfl) ?_; clear q_; (repeat (first | with_reducible refine tt ?_ | refine And.intro (by first | with_reducible assumption | kernel_rfl | omega | (simp only [inR, List.length_cons, List.length_nil]; omega)) ?_)))
            refine ⟨by rw [intPV_len]; simp at q2; omega, ?_⟩
            (show ?g262; have q_ : type_of% (px (G := ?g262) (by (conv => rhs; whnf); (repeat ((first | (apply sgA; with_reducible assumption) | (apply sgT; kernel_rfl) | apply sgP); (conv => rhs; whnf))); exact sgI)) := trivial; refine segM q_ (by kernel_rfl) ?_; clear q_; (repeat (first | with_reducible refine tt ?_ | refine And.intro (by first | with_reducible assumption | kernel_rfl | omega | (simp only [inR, List.length_cons, List.length_nil]; omega)) ?_)))
            exact Eq.mp (by kernel_rfl) (yes (Classical.byContradiction fun n => e (decide_eq_false n)))
      · rintro acc H ⟨rest, done, q1, rfl, q2, q3, q4, rfl⟩
        cases rest with
        | cons => cases q1
        | nil =>
        have hd : done.length ≤ 15 := by simpa using q2
        (show ?g263; have q_ : type_of% (px (G := ?g263) (by (conv => rhs; whnf); (repeat ((first | (apply sgA; with_reducible assumption) | (apply sgT; kernel_rfl) | apply sgP); (conv => rhs; whnf))); exact sgI)) := trivial; refine segM q_ (by kernel_rfl) ?_; clear q_; (repeat (first | with_reducible refine tt ?_ | refine And.intro (by first | with_reducible assumption | kernel_rfl | omega | (simp only [inR, List.length_cons, List.length_nil]; omega)) ?_)))
        refine ⟨by rw [intPV_len]; exact Nat.le_trans (show done.length + 1 ≤ 16 by omega) (by decide), ?_⟩
        (show ?g264; have q_ : type_of% (px (G := ?g264) (by (conv => rhs; whnf); (repeat ((first | (apply sgA; with_reducible assumption) | (apply sgT; kernel_rfl) | apply sgP); (conv => rhs; whnf))); exact sgI)) := trivial; refine segM q_ (by kernel_rfl) ?_; clear q_; (repeat (first | with_reducible refine tt ?_ | refine And.intro (by first | with_reducible assumption | kernel_rfl | omega | (simp only [inR, List.length_cons, List.length_nil]; omega)) ?_)))
        have w4 : 4 ≤ way := Int.not_lt.mp (of_decide_eq_false e4)
        have w7 : way < 7 := of_decide_eq_true e7
        refine ⟨by omega, show way - 3 ≤ 3 by omega, (show 3 ≤ sizeLine by decide), ?_⟩
        (show ?g265; have q_ : type_of% (px (G := ?g265) (by (conv => rhs; whnf); (repeat ((first | (apply sgA; with_reducible assumption) | (apply sgT; kernel_rfl) | apply sgP); (conv => rhs; whnf))); exact sgI)) := trivial; refine segM q_ (by kernel_rfl) ?_; clear q_; (repeat (first | with_reducible refine tt ?_ | refine And.intro (by first | with_reducible assumption | kernel_rfl | omega | (simp only [inR, List.length_cons, List.length_nil]; omega)) ?_)))
        obtain ⟨sp, hsp⟩ : ∃ sp, sp = [one, two, one + two].take (way - 3).toNat := ⟨_, rfl⟩
        have hs0 : sp ≠ [] := by
          intro q
          rw [hsp] at q
          have := congrArg List.length q
          rw [List.length_take] at this
          simp at this
          omega
        have hs3 : sp.length ≤ 3 := by rw [hsp, List.length_take]; simp; omega
        have hsb : ∀ x ∈ sp, 0 ≤ x ∧ x ≤ 28 := fun x hx => by
          rw [hsp] at hx
          have := List.mem_of_mem_take hx
          simp at this
          omega
        obtain ⟨us, hus⟩ : ∃ us, us = done ++ [120] := ⟨_, rfl⟩
        have husl : 0 < us.length ∧ us.length ≤ 16 := by rw [hus]; simp; omega
        have husm : ∀ x ∈ us, (x ∈ pool ∧ catOf ch x = 11) ∨ x = 120 := fun x hx => by
          rw [hus] at hx
          rcases List.mem_append.mp hx with hx | hx
          · exact .inl (q4 x hx)
          · simp at hx; exact .inr hx
        have huso : ∀ x ∈ us, 0 ≤ x ∧ x ≤ 255 := fun x hx => by
          rcases husm x hx with q | q
          · exact pool_oct q.1
          · omega
        have husv : intPV done ++ [.int 120] = intPV us := by rw [hus]; unfold intPV; rw [List.map_append]; rfl
        refine ⟨intPV sp, Eq.trans (b := some (List.take (way - 3).toNat [.int one, .int two, .int (one + two)])) (by kernel_rfl) (by rw [hsp]; unfold intPV; rw [List.map_take]; rfl), ?_⟩
        refine compK_ind (fun l acc H => ∃ (rest cs : List Int), l = intPV rest ∧ acc = strPV (cs.map ch1) ∧ cs.length + rest.length = sp.length ∧ (∀ x ∈ rest, 0 ≤ x ∧ x ≤ 28) ∧ (∀ x ∈ cs, x ∈ us) ∧
          H = [.list (boxPV a3 b3 c), .idict ch, .list (intPV done), .list [.int 120], .list (intPV us)]) ?_ ?_ _ _ _
          ⟨sp, [], rfl, rfl, by simp, hsb, by simp, by rw [← husv]; kernel_rfl⟩
        · rintro i r acc H Kt ⟨rest, cs, r1, rfl, r2, r3, r4, rfl⟩ hk2
          cases rest with
          | nil => cases r1
          | cons x rest =>
            cases r1
            have hx := r3 x (.head _)
            have hul := intPV_len us
            have hne : (((intPV us).length : Nat) : Int) ≠ 0 := by rw [hul]; omega
            have hmod : 0 ≤ x.fmod ((intPV us).length : Nat) ∧ x.fmod ((intPV us).length : Nat) < us.length := by
              rw [hul, Int.fmod_eq_emod_of_nonneg _ (by omega)]
              exact ⟨Int.emod_nonneg _ (by omega), Int.emod_lt_of_pos _ (by omega)⟩
            obtain ⟨d, hd⟩ : ∃ d, us[(x.fmod ((intPV us).length : Nat)).toNat]? = some d := ⟨_, List.getElem?_eq_getElem (by omega)⟩
            have hdm := List.mem_of_getElem? hd
            have hdo := huso d hdm
            have ixd : ixL (x.fmod ((intPV us).length : Nat)) (intPV us) = some (.int d) := ixL_int hmod.1 hd
            (show ?g266; have q_ : type_of% (px (G := ?g266) (by (conv => rhs; whnf); (repeat ((first | (apply sgA; with_reducible assumption) | (apply sgT; kernel_rfl) | apply sgP); (conv => rhs; whnf))); exact sgI)) := trivial; refine segM q_ (by kernel_rfl) ?_; clear q_; (repeat (first | with_reducible refine tt ?_ | refine And.intro (by first | with_reducible assumption | kernel_rfl | omega | (simp only [inR, List.length_cons, List.length_nil]; omega)) ?_)))
            rw [ixd]
            (show ?g267; have q_ : type_of% (px (G := ?g267) (by (conv => rhs; whnf); (repeat ((first | (apply sgA; with_reducible assumption) | (apply sgT; kernel_rfl) | apply sgP); (conv => rhs; whnf))); exact sgI)) := trivial; refine segM q_ (by kernel_rfl) ?_; clear q_; (repeat (first | with_reducible refine tt ?_ | refine And.intro (by first | with_reducible assumption | kernel_rfl | omega | (simp only [inR, List.length_cons, List.length_nil]; omega)) ?_)))
            refine ⟨Nat.le_trans (show (strPV (cs.map ch1)).length ≤ 3 by rw [strPV_len, List.length_map]; simp at r2; omega) (by decide), ?_⟩
            (show ?g268; have q_ : type_of% (px (G := ?g268) (by (conv => rhs; whnf); (repeat ((first | (apply sgA; with_reducible assumption) | (apply sgT; kernel_rfl) | apply sgP); (conv => rhs; whnf))); exact sgI)) := trivial; refine segM q_ (by kernel_rfl) ?_; clear q_; (repeat (first | with_reducible refine tt ?_ | refine And.intro (by first | with_reducible assumption | kernel_rfl | omega | (simp only [inR, List.length_cons, List.length_nil]; omega)) ?_)))
            refine hk2 _ _ ⟨rest, cs ++ [d], rfl, ?_, by simp at r2 ⊢; omega, fun y hy => r3 y (.tail _ hy), ?_, by kernel_rfl⟩
            · have e : strPV (cs.map ch1) ++ [.str (ch1 d)] = strPV ((cs ++ [d]).map ch1) := by rw [strPV_app, List.map_append]; rfl
              rw [← e]
              kernel_rfl
            · intro y hy
              rcases List.mem_append.mp hy with hy | hy
              · exact r4 y hy
              · simp at hy; subst hy; exact hdm
        · rintro acc H ⟨rest, cs, r1, rfl, r2, r3, r4, rfl⟩
          cases rest with
          | cons => cases r1
          | nil =>
          have hcl : cs.length = sp.length := by simpa using r2
          have hj : JoinOk (sn "") (cs.map ch1) = true := by
            refine join_ok _ (by simp; omega) fun x hx => ?_
            obtain ⟨t, htm, rfl⟩ := List.mem_map.mp hx
            exact (by decide : 1 ≤ 2000)
          have hne : cs ≠ [] := fun q => hs0 (List.eq_nil_of_length_eq_zero (by rw [← hcl, q]; rfl))
          have fin := h _ (.name hne (by omega) fun x hx => husm x (r4 x hx))
          have hjn : Txt.join (sn "") (cs.map ch1) = strOf cs := by
            rw [← cat_strOf, ← join_eq]
            exact StrLaws.glued_eq_join _ _
          rw [← hjn] at fin
          (show ?g269; have q_ : type_of% (px (G := ?g269) (by (conv => rhs; whnf); (repeat ((first | (apply sgA; with_reducible assumption) | (apply sgT; kernel_rfl) | apply sgP); (conv => rhs; whnf))); exact sgI)) := trivial; refine segM q_ (by kernel_rfl) ?_; clear q_; (repeat (first | with_reducible refine tt ?_ | refine And.intro (by first | with_reducible assumption | kernel_rfl | omega | (simp only [inR, List.length_cons, List.length_nil]; omega)) ?_)))
          rw [strsOf_strPV]
          (show ?g270; have q_ : type_of% (px (G := ?g270) (by (conv => rhs; whnf); (repeat ((first | (apply sgA; with_reducible assumption) | (apply sgT; kernel_rfl) | apply sgP); (conv => rhs; whnf))); exact sgI)) := trivial; refine segM q_ (by kernel_rfl) ?_; clear q_; (repeat (first | with_reducible refine tt ?_ | refine And.intro (by first | with_reducible assumption | kernel_rfl | omega | (simp only [inR, List.length_cons, List.length_nil]; omega)) ?_)))
          exact Eq.mp (by kernel_rfl) fin
    · (show ?g271; have q_ : type_of% (px (G := ?g271) (by (conv => rhs; whnf); (repeat ((first | (apply sgA; with_reducible assumption) | (apply sgT; kernel_rfl) | apply sgP); (conv => rhs; whnf))); exact sgI)) := trivial; refine segM q_ (by kernel_rfl) ?_; clear q_; (repeat (first | with_reducible refine tt ?_ | refine And.intro (by first | with_reducible assumption | kernel_rfl | omega | (simp only [inR, List.length_cons, List.length_nil]; omega)) ?_)))
      refine drec (fun e8 => ?_) (fun e8 => ?_)
      · (show ?g272; have q_ : type_of% (px (G := ?g272) (by (conv => rhs; whnf); (repeat ((first | (apply sgA; with_reducible assumption) | (apply sgT; kernel_rfl) | apply sgP); (conv => rhs; whnf))); exact sgI)) := trivial; refine segM q_ (by kernel_rfl) ?_; clear q_; (repeat (first | with_reducible refine tt ?_ | refine And.intro (by first | with_reducible assumption | kernel_rfl | omega | (simp only [inR, List.length_cons, List.length_nil]; omega)) ?_)))
        refine drec (fun e2 => ?_) (fun e2 => ?_)
        · (show ?g273; have q_ : type_of% (px (G := ?g273) (by (conv => rhs; whnf); (repeat ((first | (apply sgA; with_reducible assumption) | (apply sgT; kernel_rfl) | apply sgP); (conv => rhs; whnf))); exact sgI)) := trivial; refine segM q_ (by kernel_rfl) ?_; clear q_; (repeat (first | with_reducible refine tt ?_ | refine And.intro (by first | with_reducible assumption | kernel_rfl | omega | (simp only [inR, List.length_cons, List.length_nil]; omega)) ?_)))
          rw [ixp]
          (show ?g274; have q_ : type_of% (px (G := ?g274) (by (conv => rhs; whnf); (repeat ((first | (apply sgA; with_reducible assumption) | (apply sgT; kernel_rfl) | apply sgP); (conv => rhs; whnf))); exact sgI)) := trivial; refine segM q_ (by kernel_rfl) ?_; clear q_; (repeat (first | with_reducible refine tt ?_ | refine And.intro (by first | with_reducible assumption | kernel_rfl | omega | (simp only [inR, List.length_cons, List.length_nil]; omega)) ?_)))
          exact Eq.mp (by kernel_rfl) (h _ (.one (.inl hpm)))
        · (show ?g275; have q_ : type_of% (px (G := ?g275) (by (conv => rhs; whnf); (repeat ((first | (apply sgA; with_reducible assumption) | (apply sgT; kernel_rfl) | apply sgP); (conv => rhs; whnf))); exact sgI)) := trivial; refine segM q_ (by kernel_rfl) ?_; clear q_; (repeat (first | with_reducible refine tt ?_ | refine And.intro (by first | with_reducible assumption | kernel_rfl | omega | (simp only [inR, List.length_cons, List.length_nil]; omega)) ?_)))
          have hm9 : 0 ≤ one.fmod 9 ∧ one.fmod 9 < 9 := by rw [Int.fmod_eq_emod_of_nonneg _ (by omega)]; omega
          obtain ⟨mc, hmc⟩ : ∃ mc, marks[(one.fmod 9).toNat]? = some mc := ⟨_, List.getElem?_eq_getElem (show (one.fmod 9).toNat < 9 by omega)⟩
          have hmm := List.mem_of_getElem? hmc
          have ixm : ixL (one.fmod 9) (tv383.map absP) = some (.int mc) := by rw [marks_tv]; exact ixL_int hm9.1 hmc
          have hmo := marks_oct hmm
          rw [ixm]
          (show ?g276; have q_ : type_of% (px (G := ?g276) (by (conv => rhs; whnf); (repeat ((first | (apply sgA; with_reducible assumption) | (apply sgT; kernel_rfl) | apply sgP); (conv => rhs; whnf))); exact sgI)) := trivial; refine segM q_ (by kernel_rfl) ?_; clear q_; (repeat (first | with_reducible refine tt ?_ | refine And.intro (by first | with_reducible assumption | kernel_rfl | omega | (simp only [inR, List.length_cons, List.length_nil]; omega)) ?_)))
          exact Eq.mp (by kernel_rfl) (h _ (.one (.inr hmm)))
      · (show ?g277; have q_ : type_of% (px (G := ?g277) (by (conv => rhs; whnf); (repeat ((first | (apply sgA; with_reducible assumption) | (apply sgT; kernel_rfl) | apply sgP); (conv => rhs; whnf))); exact sgI)) := trivial; refine segM q_ (by kernel_rfl) ?_; clear q_; (repeat (first | with_reducible refine tt ?_ | refine And.intro (by first | with_reducible assumption | kernel_rfl | omega | (simp only [inR, List.length_cons, List.length_nil]; omega)) ?_)))
        exact Eq.mp (by kernel_rfl) (h _ .space)
theorem s414 (B : Bs w h₀) : Sound prog w h₀ 414 8 ct414 := (sd414 (lev := 6) B f414 (consΓ ((s402 B).mono (by omega)) (consΓ ((s409 B).mono (by omega)) noΓ))).imp t414
end

noncomputable def cats10 : List Int := [1, 2, 3, 4, 6, 7, 8, 11, 12, 13]
noncomputable def Oct (c : Int) : Prop := (0 ≤ c ∧ c ≤ 255) ∧ c ≠ 10
inductive RowOk (ch : List (Int × Int)) : Bool → Int → List LT → Prop
  | nil {s l} : RowOk ch s l []
  | char {s l c r} : Oct c → catOf ch c ∈ cats10 → (c = l → catOf ch c ≠ 7) → RowOk ch false c r → RowOk ch s l (.ch (catOf ch c) c :: r)
  | space {l r} : RowOk ch true 32 r → RowOk ch false l (.ch 10 32 :: r)
  | name {s l cs c r} : cs ≠ [] → cs.length ≤ 2 → (∀ x ∈ cs ++ [c], Oct x ∧ catOf ch x = 11) → RowOk ch true c r → RowOk ch s l (.nm (strOf (cs ++ [c])) :: r)
  | one {s l c r} : Oct c → RowOk ch (decide (catOf ch c = 10 ∨ catOf ch c = 11)) c r → RowOk ch s l (.nm (strOf [c]) :: r)
theorem pool_o {c : Int} (h : c ∈ pool) : Oct c := by
  refine ⟨pool_oct h, fun q => ?_⟩
  subst q; revert h; decide
theorem marks_o {c : Int} (h : c ∈ marks) : Oct c := by
  refine ⟨marks_oct h, fun q => ?_⟩
  subst q; revert h; decide
structure ChOk (ch : List (Int × Int)) : Prop where
  pool : ∀ c ∈ pool, catOf ch c ∈ cats10
  x : catOf ch 120 = 11
  sp : catOf ch 32 = 10
structure Fnd (ch : List (Int × Int)) (found : List LT) (s : Bool) (last : Int) (n : Nat) : Prop where
  ext : ∀ rest, RowOk ch s last rest → RowOk ch true 0 (found ++ rest)
  last : 0 ≤ last ∧ last ≤ 255
  len : found.length ≤ n
variable {ch : List (Int × Int)} {found : List LT} {s : Bool} {last : Int} {n : Nat}
theorem xOk (C : ChOk ch) {s : Bool} {l : Int} {r : List LT} (h : RowOk ch false 120 r) : RowOk ch s l (.ch 11 120 :: r) := by
  have := @RowOk.char ch s l 120 r ⟨by decide, by decide⟩ (by rw [C.x]; decide) (fun _z => by rw [C.x]; decide) h
  rw [C.x] at this
  exact this
theorem Fnd.x (C : ChOk ch) (F : Fnd ch found s last n) : Fnd ch (found ++ [.ch 11 120]) false 120 (n + 1) :=
  ⟨fun rest h => by rw [List.append_assoc]; exact F.ext _ (xOk C h), by decide, by have := F.len; simp; omega⟩
theorem Fnd.char (F : Fnd ch found s last n) {c : Int} (hc : Oct c) (h10 : catOf ch c ∈ cats10) (h7 : c = last → catOf ch c ≠ 7) : Fnd ch (found ++ [.ch (catOf ch c) c]) false c (n + 1) :=
  ⟨fun rest h => by rw [List.append_assoc]; exact F.ext _ (.char hc h10 h7 h), hc.1, by have := F.len; simp; omega⟩
theorem Fnd.space (F : Fnd ch found false last n) : Fnd ch (found ++ [.ch 10 32]) true 32 (n + 1) :=
  ⟨fun rest h => by rw [List.append_assoc]; exact F.ext _ (.space h), by decide, by have := F.len; simp; omega⟩
theorem Fnd.name (F : Fnd ch found s last n) {cs : List Int} {c : Int} (h0 : cs ≠ []) (h2 : cs.length ≤ 2) (h : ∀ x ∈ cs ++ [c], Oct x ∧ catOf ch x = 11) : Fnd ch (found ++ [.nm (strOf (cs ++ [c]))]) true c (n + 1) :=
  ⟨fun rest h' => by rw [List.append_assoc]; exact F.ext _ (.name h0 h2 h h'), (h c (by simp)).1.1, by have := F.len; simp; omega⟩
theorem Fnd.one (F : Fnd ch found s last n) {c : Int} (hc : Oct c) : Fnd ch (found ++ [.nm (strOf [c])]) (decide (catOf ch c = 10 ∨ catOf ch c = 11)) c (n + 1) :=
  ⟨fun rest h => by rw [List.append_assoc]; exact F.ext _ (.one hc h), hc.1, by have := F.len; simp; omega⟩
theorem Fnd.up (F : Fnd ch found s last n) {m : Nat} (h : n ≤ m) : Fnd ch found s last m := ⟨F.ext, F.last, Nat.le_trans F.len h⟩
noncomputable def rowPV (l : List LT) : List PV := l.map LT.pv
theorem rowPV_app (l : List LT) (t : LT) : rowPV l ++ [t.pv] = rowPV (l ++ [t]) := by unfold rowPV; rw [List.map_append]; rfl
theorem rowPV_len (l : List LT) : (rowPV l).length = l.length := List.length_map ..
theorem charNe {a b : Int} (h : a ≠ 10) : PyData.eqv (PV.py (.tup [.int a, .int b])) (PV.py (.tup [.int 10, .int 32])) = false := by
  have : (a == (10 : Int)) = false := beq_eq_false_iff_ne.mpr h
  show ((a == (10 : Int)) && _) = false
  rw [this]; rfl
theorem strOk_strOf {cs : List Int} (h : ∀ x ∈ cs, 0 ≤ x ∧ x ≤ 255) : PyData.strOk (strOf cs) = true := by
  unfold PyData.strOk strOf
  rw [List.all_toArray, List.all_eq_true]
  intro x hx
  obtain ⟨y, hy, rfl⟩ := List.mem_map.mp hx
  have := h y hy
  exact decide_eq_true (by omega)
theorem nmEq {cs : List Int} (h : ∀ x ∈ cs, 0 ≤ x ∧ x ≤ 255) : eqOk (LT.nm (strOf cs)).pv = true := by
  have hs := strOk_strOf h
  have e : eqOk (LT.nm (strOf cs)).pv = ((PyData.strOk (strOf cs) && true) && true) := by kernel_rfl
  rw [e, hs]; rfl
theorem name_oct (C : ChOk ch) {cs : List Int} (h : ∀ c ∈ cs, (c ∈ pool ∧ catOf ch c = 11) ∨ c = 120) {x : Int} (hx : x ∈ cs) : Oct x ∧ catOf ch x = 11 := by
  rcases h x hx with q | q
  · exact ⟨pool_o q.1, q.2⟩
  · subst q; exact ⟨⟨by decide, by decide⟩, C.x⟩
inductive Tk (ch : List (Int × Int)) : LT → Prop
  | char {c : Int} : c ∈ pool → Tk ch (.ch (catOf ch c) c)
  | two {x y : Nat} : (∀ c ∈ [(x : Int), (y : Int)], Oct c ∧ catOf ch c = 11) → Tk ch (.nm (strOf [(x : Int), (y : Int)]))
  | three {x y z : Nat} : (∀ c ∈ [(x : Int), (y : Int), (z : Int)], Oct c ∧ catOf ch c = 11) → Tk ch (.nm (strOf [(x : Int), (y : Int), (z : Int)]))
  | one {p : Nat} : Oct (p : Int) → Tk ch (.nm (strOf [(p : Int)]))
  | space : Tk ch (.ch 10 32)
theorem Drawn.tk (C : ChOk ch) {t : LT} (h : Drawn ch t) : Tk ch t := by
  cases h with
  | char h => exact .char h
  | space => exact .space
  | @one c h =>
    have hc : Oct c := h.elim pool_o marks_o
    obtain ⟨n, rfl⟩ := Int.eq_ofNat_of_zero_le hc.1.1
    exact .one hc
  | @name cs h0 h3 h =>
    have h := fun x hx => name_oct C h (x := x) hx
    rcases cs with _ | ⟨x, _ | ⟨y, _ | ⟨z, _ | ⟨u, r⟩⟩⟩⟩
    · exact absurd rfl h0
    · have hc := (h x (by simp)).1
      obtain ⟨n, rfl⟩ := Int.eq_ofNat_of_zero_le hc.1.1
      exact .one hc
    · obtain ⟨n, rfl⟩ := Int.eq_ofNat_of_zero_le (h x (by simp)).1.1.1
      obtain ⟨m, rfl⟩ := Int.eq_ofNat_of_zero_le (h y (by simp)).1.1.1
      exact .two h
    · obtain ⟨n, rfl⟩ := Int.eq_ofNat_of_zero_le (h x (by simp)).1.1.1
      obtain ⟨m, rfl⟩ := Int.eq_ofNat_of_zero_le (h y (by simp)).1.1.1
      obtain ⟨k, rfl⟩ := Int.eq_ofNat_of_zero_le (h z (by simp)).1.1.1
      exact .three h
    · simp at h3
theorem inEq (v : Int) : ((PV.pys [.int 10, .int 11]).any fun y => PyData.eqv y (PV.py (.int v))) = decide (v = 10 ∨ v = 11) := by
  show (((10 : Int) == v) || (((11 : Int) == v) || false)) = _
  by_cases h : v = 10
  · subst h; decide
  · by_cases h2 : v = 11
    · subst h2; decide
    · have e1 : ((10 : Int) == v) = false := beq_eq_false_iff_ne.mpr (fun q => h q.symm)
      have e2 : ((11 : Int) == v) = false := beq_eq_false_iff_ne.mpr (fun q => h2 q.symm)
      rw [e1, e2]
      exact (decide_eq_false (by omega)).symm
section
variable {prog : Program} {w : World} {h₀ : Heap}
noncomputable def U421 : List (Str × SV) := [(sn "_law_box", .raw (.ref 395)), (sn "_law_take", .raw (.ref 402)), (sn "_law_drawn", .raw (.ref 414)), (sn "_law_category", .raw (.ref 409)), (sn "range", .raw (.type "range")), (sn "ord", .raw (.builtin "ord")), (sn "len", .raw (.builtin "len"))]
theorem f421 : facts U421 [sn "script", sn "changes"] [] [sn "found", sn "skips", sn "last", sn "k", sn "box", sn "lap", sn "token"] (tl 47) := ⟨⟨by kernel_rfl, by kernel_rfl⟩, by kernel_rfl⟩
noncomputable def ct421 : CT := fun args H K => ∃ (sc : List Int) (ch : List (Int × Int)), args = [.ref 0, .ref 1] ∧ H = [.list (intPV sc), .idict ch] ∧ sc.length ≤ 63 ∧ ChOk ch ∧
  ∀ row, RowOk ch true 0 (row ++ [.ch 11 120]) → row.length ≤ 32 → K (.ref 2) [.list (intPV sc), .idict ch, .list (rowPV (row ++ [.ch 11 120]))]
theorem t421 : ∀ args H K, ct421 args H K → ctD 14 [(395, ct395), (402, ct402), (414, ct414), (409, ct409)] U421 [sn "script", sn "changes"] [] [sn "found", sn "skips", sn "last", sn "k", sn "box", sn "lap", sn "token"] (tl 47) [] args H K := by
  rintro args H K ⟨sc, ch, rfl, rfl, hsl, C, h⟩
  (show ?g278; have q_ : type_of% (px (G := ?g278) (by (conv => rhs; whnf); (repeat ((first | (apply sgA; with_reducible assumption) | (apply sgT; kernel_rfl) | apply sgP); (conv => rhs; whnf))); exact sgI)) := trivial; refine segM q_ (by kernel_rfl) ?_; clear q_; (repeat (first | with_reducible refine tt ?_ | refine And.intro (by first | with_reducible assumption | kernel_rfl | omega | (simp only [inR, List.length_cons, List.length_nil]; omega)) ?_)))
  refine ⟨[1, 2, 3, 4].map fun k : Nat => PV.int k, by kernel_rfl, ?_⟩
  refine forK_ind (fun ps vars H => ∃ (j : Nat) (rest : List Nat), ps = rest.map (fun k : Nat => PV.int k) ∧ (∀ k ∈ rest, k ≤ 5) ∧ rest.length + j = 4 ∧ ∃ found s last, Fnd ch found s last (8 * j) ∧
    vars = [(sn "script", .ref 0), (sn "changes", .ref 1), (sn "found", .ref 2), (sn "skips", B' s), (sn "last", I last)] ∧ H = [.list (intPV sc), .idict ch, .list (rowPV found)]) ?_ ?_ _ _ _
    ⟨0, [1, 2, 3, 4], rfl, by decide, rfl, [], true, 0, ⟨fun _z h => h, by decide, by decide⟩, by kernel_rfl, by kernel_rfl⟩
  · rintro i r vars H Kt ⟨j, rest, q1, q2, q3, found, s, last, F, rfl, rfl⟩ hk
    cases rest with
    | nil => cases q1
    | cons k rest =>
    cases q1
    have hk5 := q2 k (.head _)
    (show ?g279; have q_ : type_of% (px (G := ?g279) (by (conv => rhs; whnf); (repeat ((first | (apply sgA; with_reducible assumption) | (apply sgT; kernel_rfl) | apply sgP); (conv => rhs; whnf))); exact sgI)) := trivial; refine segM q_ (by kernel_rfl) ?_; clear q_; (repeat (first | with_reducible refine tt ?_ | refine And.intro (by first | with_reducible assumption | kernel_rfl | omega | (simp only [inR, List.length_cons, List.length_nil]; omega)) ?_)))
    refine ex2 sc k ⟨by kernel_rfl, by kernel_rfl, hsl, hk5, fun a c ha hc => ?_⟩
    (show ?g280; have q_ : type_of% (px (G := ?g280) (by (conv => rhs; whnf); (repeat ((first | (apply sgA; with_reducible assumption) | (apply sgT; kernel_rfl) | apply sgP); (conv => rhs; whnf))); exact sgI)) := trivial; refine segM q_ (by kernel_rfl) ?_; clear q_; (repeat (first | with_reducible refine tt ?_ | refine And.intro (by first | with_reducible assumption | kernel_rfl | omega | (simp only [inR, List.length_cons, List.length_nil]; omega)) ?_)))
    refine ex4 a 0 c 4 ⟨by kernel_rfl, by kernel_rfl, ⟨ha, by omega, hc⟩, by decide, fun d a1 b1 hd ha1 hb1 hb1' => ?_⟩
    (show ?g281; have q_ : type_of% (px (G := ?g281) (by (conv => rhs; whnf); (repeat ((first | (apply sgA; with_reducible assumption) | (apply sgT; kernel_rfl) | apply sgP); (conv => rhs; whnf))); exact sgI)) := trivial; refine segM q_ (by kernel_rfl) ?_; clear q_; (repeat (first | with_reducible refine tt ?_ | refine And.intro (by first | with_reducible assumption | kernel_rfl | omega | (simp only [inR, List.length_cons, List.length_nil]; omega)) ?_)))
    refine ⟨rangeL 0 (1 + d), if_pos (by omega), ?_⟩
    have hrl : (rangeL 0 (1 + d)).length = (1 + d).toNat := by unfold rangeL; simp
    refine forK_ind (fun ps vars H => ∃ (f : Nat) (found : List LT) (s : Bool) (last a b c : Int), ps.length + f = 4 ∧ Fnd ch found s last (8 * j + 2 * f) ∧ (0 ≤ a ∧ 0 ≤ b ∧ b ≤ 1 + 3 * f ∧ (0 ≤ c ∧ c < 1000003)) ∧
      vars = [(sn "script", .ref 0), (sn "changes", .ref 1), (sn "found", .ref 2), (sn "skips", B' s), (sn "last", I last), (sn "k", .p (.int k)), (sn "box", .ref 3)] ∧ H = [.list (intPV sc), .idict ch, .list (rowPV found), .list (boxPV a b c)]) ?_ ?_ _ _ _
      ⟨4 - (1 + d).toNat, found, s, last, a1, b1, c, by rw [hrl]; omega, F.up (by omega), ⟨ha1, hb1, by omega, hc⟩, by kernel_rfl, by kernel_rfl⟩
    · clear F
      rintro i r vars H Kt ⟨f, found, s, last, a, b, c, f1, F, ⟨ha, hb, hb', hc⟩, rfl, rfl⟩ hk2
      have f1 : r.length + (f + 1) = 4 := by simp at f1; omega
      have fin : ∀ {found' : List LT} {s' : Bool} {last' : Int} (a' b' : Int), Fnd ch found' s' last' (8 * j + 2 * f + 2) → 0 ≤ a' → 0 ≤ b' → b' ≤ b + 3 →
          Kt [(sn "script", .ref 0), (sn "changes", .ref 1), (sn "found", .ref 2), (sn "skips", B' s'), (sn "last", I last'), (sn "k", .p (.int k)), (sn "box", .ref 3)] [.list (intPV sc), .idict ch, .list (rowPV found'), .list (boxPV a' b' c)] := fun a' b' F' q1 q2 q3 =>
        hk2 _ _ ⟨f + 1, _, _, _, a', b', c, f1, F'.up (by omega), ⟨q1, q2, by push_cast; omega, hc⟩, rfl, rfl⟩
      clear hk2 hk
      have hz0 := F.len
      have hz1 : (rowPV found).length ≤ sizeLine := by rw [rowPV_len]; exact Nat.le_trans (show found.length ≤ 60 by omega) (by decide)
      have hz2 : (rowPV found ++ [PV.tup [.int 11, .int 120]]).length ≤ sizeLine := by rw [List.length_append, rowPV_len]; exact Nat.le_trans (show found.length + 1 ≤ 61 by omega) (by decide)
      (show ?g282; have q_ : type_of% (px (G := ?g282) (by (conv => rhs; whnf); (repeat ((first | (apply sgA; with_reducible assumption) | (apply sgT; kernel_rfl) | apply sgP); (conv => rhs; whnf))); exact sgI)) := trivial; refine segM q_ (by kernel_rfl) ?_; clear q_; (repeat (first | with_reducible refine tt ?_ | refine And.intro (by first | with_reducible assumption | kernel_rfl | omega | (simp only [inR, List.length_cons, List.length_nil]; omega)) ?_)))
      refine ex4 a b c ch ⟨by kernel_rfl, by kernel_rfl, ⟨ha, by omega, hc⟩, by omega, fun t a' b' ht ha' hb' hb'' => ?_⟩
      cases ht.tk C with
      | @char p hp =>
        have hpo := pool_oct hp
        have h10 := C.pool p hp
        have n10 : catOf ch p ≠ 10 := fun q => by rw [q] at h10; revert h10; decide
        have n0 : catOf ch p ≠ 0 := fun q => by rw [q] at h10; revert h10; decide
        have q0 : decide (catOf ch p = 0) = false := decide_eq_false n0
        have q0' : (!decide (catOf ch p = 0)) = true := by rw [q0]; rfl
        have q10 : decide (catOf ch p = 10) = false := decide_eq_false n10
        have qe : PyData.eqv (PV.py (.tup [.int (catOf ch p), .int p])) (PV.py (.tup [.int 10, .int 32])) = false := charNe n10
        (show ?g283; have q_ : type_of% (px (G := ?g283) (by (conv => rhs; whnf); (repeat ((first | (apply sgA; with_reducible assumption) | (apply sgT; kernel_rfl) | apply sgP); (conv => rhs; whnf))); exact sgI)) := trivial; refine segM q_ (by kernel_rfl) ?_; clear q_; (repeat (first | with_reducible refine tt ?_ | refine And.intro (by first | with_reducible assumption | kernel_rfl | omega | (simp only [inR, List.length_cons, List.length_nil]; omega)) ?_)))
        refine drecG (fun _z => ?_) (fun e => absurd qe e)
        (show ?g284; have q_ : type_of% (px (G := ?g284) (by (conv => rhs; whnf); (repeat ((first | (apply sgA; with_reducible assumption) | (apply sgT; kernel_rfl) | apply sgP); (conv => rhs; whnf))); exact sgI)) := trivial; refine segM q_ (by kernel_rfl) ?_; clear q_; (repeat (first | with_reducible refine tt ?_ | refine And.intro (by first | with_reducible assumption | kernel_rfl | omega | (simp only [inR, List.length_cons, List.length_nil]; omega)) ?_)))
        refine drec (fun e => absurd (qe.symm.trans e) (by decide)) (fun _z => ?_)
        (show ?g285; have q_ : type_of% (px (G := ?g285) (by (conv => rhs; whnf); (repeat ((first | (apply sgA; with_reducible assumption) | (apply sgT; kernel_rfl) | apply sgP); (conv => rhs; whnf))); exact sgI)) := trivial; refine segM q_ (by kernel_rfl) ?_; clear q_; (repeat (first | with_reducible refine tt ?_ | refine And.intro (by first | with_reducible assumption | kernel_rfl | omega | (simp only [inR, List.length_cons, List.length_nil]; omega)) ?_)))
        refine drecG (fun e => absurd (q0'.symm.trans e) (by decide)) (fun _z => ?_)
        (show ?g286; have q_ : type_of% (px (G := ?g286) (by (conv => rhs; whnf); (repeat ((first | (apply sgA; with_reducible assumption) | (apply sgT; kernel_rfl) | apply sgP); (conv => rhs; whnf))); exact sgI)) := trivial; refine segM q_ (by kernel_rfl) ?_; clear q_; (repeat (first | with_reducible refine tt ?_ | refine And.intro (by first | with_reducible assumption | kernel_rfl | omega | (simp only [inR, List.length_cons, List.length_nil]; omega)) ?_)))
        refine drecG (fun e => ?_) (fun e => ?_)
        · have g := fin a' b' ((F.char (pool_o hp) h10 fun q => absurd q (of_decide_eq_false e)).up (by omega)) ha' hb' hb''
          rw [← rowPV_app] at g
          (show ?g287; have q_ : type_of% (px (G := ?g287) (by (conv => rhs; whnf); (repeat ((first | (apply sgA; with_reducible assumption) | (apply sgT; kernel_rfl) | apply sgP); (conv => rhs; whnf))); exact sgI)) := trivial; refine segM q_ (by kernel_rfl) ?_; clear q_; (repeat (first | with_reducible refine tt ?_ | refine And.intro (by first | with_reducible assumption | kernel_rfl | omega | (simp only [inR, List.length_cons, List.length_nil]; omega)) ?_)))
          refine drec (fun e' => absurd (e'.symm.trans e) (by decide)) (fun _z => ?_)
          (show ?g288; have q_ : type_of% (px (G := ?g288) (by (conv => rhs; whnf); (repeat ((first | (apply sgA; with_reducible assumption) | (apply sgT; kernel_rfl) | apply sgP); (conv => rhs; whnf))); exact sgI)) := trivial; refine segM q_ (by kernel_rfl) ?_; clear q_; (repeat (first | with_reducible refine tt ?_ | refine And.intro (by first | with_reducible assumption | kernel_rfl | omega | (simp only [inR, List.length_cons, List.length_nil]; omega)) ?_)))
          refine drec (fun e' => absurd (q0.symm.trans e') (by decide)) (fun _z => ?_)
          rw [← q10] at g
          (show ?g289; have q_ : type_of% (px (G := ?g289) (by (conv => rhs; whnf); (repeat ((first | (apply sgA; with_reducible assumption) | (apply sgT; kernel_rfl) | apply sgP); (conv => rhs; whnf))); exact sgI)) := trivial; refine segM q_ (by kernel_rfl) ?_; clear q_; (repeat (first | with_reducible refine tt ?_ | refine And.intro (by first | with_reducible assumption | kernel_rfl | omega | (simp only [inR, List.length_cons, List.length_nil]; omega)) ?_)))
          exact Eq.mp (by kernel_rfl) g
        · have e : p = last := of_decide_eq_true (neF (show ¬ decide (p = last) = false from e))
          subst e
          (show ?g290; have q_ : type_of% (px (G := ?g290) (by (conv => rhs; whnf); (repeat ((first | (apply sgA; with_reducible assumption) | (apply sgT; kernel_rfl) | apply sgP); (conv => rhs; whnf))); exact sgI)) := trivial; refine segM q_ (by kernel_rfl) ?_; clear q_; (repeat (first | with_reducible refine tt ?_ | refine And.intro (by first | with_reducible assumption | kernel_rfl | omega | (simp only [inR, List.length_cons, List.length_nil]; omega)) ?_)))
          refine ex2 ch p ⟨by kernel_rfl, by kernel_rfl, hpo, ?_⟩
          (show ?g291; have q_ : type_of% (px (G := ?g291) (by (conv => rhs; whnf); (repeat ((first | (apply sgA; with_reducible assumption) | (apply sgT; kernel_rfl) | apply sgP); (conv => rhs; whnf))); exact sgI)) := trivial; refine segM q_ (by kernel_rfl) ?_; clear q_; (repeat (first | with_reducible refine tt ?_ | refine And.intro (by first | with_reducible assumption | kernel_rfl | omega | (simp only [inR, List.length_cons, List.length_nil]; omega)) ?_)))
          refine drecG (fun e => ?_) (fun e => ?_)
          · have g := fin a' b' ((F.char (pool_o hp) h10 fun _z => of_decide_eq_false e).up (by omega)) ha' hb' hb''
            rw [← rowPV_app] at g
            (show ?g292; have q_ : type_of% (px (G := ?g292) (by (conv => rhs; whnf); (repeat ((first | (apply sgA; with_reducible assumption) | (apply sgT; kernel_rfl) | apply sgP); (conv => rhs; whnf))); exact sgI)) := trivial; refine segM q_ (by kernel_rfl) ?_; clear q_; (repeat (first | with_reducible refine tt ?_ | refine And.intro (by first | with_reducible assumption | kernel_rfl | omega | (simp only [inR, List.length_cons, List.length_nil]; omega)) ?_)))
            refine drec (fun e' => absurd (e'.symm.trans e) (by decide)) (fun _z => ?_)
            (show ?g293; have q_ : type_of% (px (G := ?g293) (by (conv => rhs; whnf); (repeat ((first | (apply sgA; with_reducible assumption) | (apply sgT; kernel_rfl) | apply sgP); (conv => rhs; whnf))); exact sgI)) := trivial; refine segM q_ (by kernel_rfl) ?_; clear q_; (repeat (first | with_reducible refine tt ?_ | refine And.intro (by first | with_reducible assumption | kernel_rfl | omega | (simp only [inR, List.length_cons, List.length_nil]; omega)) ?_)))
            refine drec (fun e' => absurd (q0.symm.trans e') (by decide)) (fun _z => ?_)
            rw [← q10] at g
            (show ?g294; have q_ : type_of% (px (G := ?g294) (by (conv => rhs; whnf); (repeat ((first | (apply sgA; with_reducible assumption) | (apply sgT; kernel_rfl) | apply sgP); (conv => rhs; whnf))); exact sgI)) := trivial; refine segM q_ (by kernel_rfl) ?_; clear q_; (repeat (first | with_reducible refine tt ?_ | refine And.intro (by first | with_reducible assumption | kernel_rfl | omega | (simp only [inR, List.length_cons, List.length_nil]; omega)) ?_)))
            exact Eq.mp (by kernel_rfl) g
          · have e : catOf ch p = 7 := of_decide_eq_true (neF (show ¬ decide (catOf ch p = 7) = false from e))
            have g := fin a' b' ((F.x C).char (pool_o hp) h10 fun q => by rw [q, C.x]; decide) ha' hb' hb''
            rw [← rowPV_app, ← rowPV_app] at g
            rw [← q10] at g
            (show ?g295; have q_ : type_of% (px (G := ?g295) (by (conv => rhs; whnf); (repeat ((first | (apply sgA; with_reducible assumption) | (apply sgT; kernel_rfl) | apply sgP); (conv => rhs; whnf))); exact sgI)) := trivial; refine segM q_ (by kernel_rfl) ?_; clear q_; (repeat (first | with_reducible refine tt ?_ | refine And.intro (by first | with_reducible assumption | kernel_rfl | omega | (simp only [inR, List.length_cons, List.length_nil]; omega)) ?_)))
            refine drec (fun e' => absurd (q0.symm.trans e') (by decide)) (fun _z => ?_)
            (show ?g296; have q_ : type_of% (px (G := ?g296) (by (conv => rhs; whnf); (repeat ((first | (apply sgA; with_reducible assumption) | (apply sgT; kernel_rfl) | apply sgP); (conv => rhs; whnf))); exact sgI)) := trivial; refine segM q_ (by kernel_rfl) ?_; clear q_; (repeat (first | with_reducible refine tt ?_ | refine And.intro (by first | with_reducible assumption | kernel_rfl | omega | (simp only [inR, List.length_cons, List.length_nil]; omega)) ?_)))
            exact Eq.mp (by kernel_rfl) g
      | @two x y hcs =>
        have heq : eqOk (LT.nm (strOf [(x : Int), (y : Int)])).pv = true := nmEq fun x hx => (hcs x hx).1.1
        have h40 : (strOf [(x : Int), (y : Int)]).length < 2 ^ 40 := show 2 < 2 ^ 40 by decide
        have g := fin a' b' ((F.name (cs := [x]) (c := y) (by simp) (by simp) hcs).up (by omega)) ha' hb' hb''
        rw [← rowPV_app] at g
        (show ?g297; have q_ : type_of% (px (G := ?g297) (by (conv => rhs; whnf); (repeat ((first | (apply sgA; with_reducible assumption) | (apply sgT; kernel_rfl) | apply sgP); (conv => rhs; whnf))); exact sgI)) := trivial; refine segM q_ (by kernel_rfl) ?_; clear q_; (repeat (first | with_reducible refine tt ?_ | refine And.intro (by first | with_reducible assumption | kernel_rfl | omega | (simp only [inR, List.length_cons, List.length_nil]; omega)) ?_)))
        exact Eq.mp (by kernel_rfl) g
      | @three x y z hcs =>
        have heq : eqOk (LT.nm (strOf [(x : Int), (y : Int), (z : Int)])).pv = true := nmEq fun x hx => (hcs x hx).1.1
        have h40 : (strOf [(x : Int), (y : Int), (z : Int)]).length < 2 ^ 40 := show 3 < 2 ^ 40 by decide
        have g := fin a' b' ((F.name (cs := [x, y]) (c := z) (by simp) (by simp) hcs).up (by omega)) ha' hb' hb''
        rw [← rowPV_app] at g
        (show ?g298; have q_ : type_of% (px (G := ?g298) (by (conv => rhs; whnf); (repeat ((first | (apply sgA; with_reducible assumption) | (apply sgT; kernel_rfl) | apply sgP); (conv => rhs; whnf))); exact sgI)) := trivial; refine segM q_ (by kernel_rfl) ?_; clear q_; (repeat (first | with_reducible refine tt ?_ | refine And.intro (by first | with_reducible assumption | kernel_rfl | omega | (simp only [inR, List.length_cons, List.length_nil]; omega)) ?_)))
        exact Eq.mp (by kernel_rfl) g
      | @one p hpo =>
        have heq : eqOk (LT.nm (strOf [(p : Int)])).pv = true := nmEq fun x hx => by simp at hx; subst hx; exact hpo.1
        have h40 : (strOf [(p : Int)]).length < 2 ^ 40 := show 1 < 2 ^ 40 by decide
        have qs : ((PV.pys [.int 10, .int 11]).any fun y => PyData.eqv y (PV.py (.int (catOf ch p)))) = decide (catOf ch p = 10 ∨ catOf ch p = 11) := inEq _
        have g := fin a' b' ((F.one hpo).up (by omega)) ha' hb' hb''
        rw [← rowPV_app] at g
        rw [← qs] at g
        (show ?g299; have q_ : type_of% (px (G := ?g299) (by (conv => rhs; whnf); (repeat ((first | (apply sgA; with_reducible assumption) | (apply sgT; kernel_rfl) | apply sgP); (conv => rhs; whnf))); exact sgI)) := trivial; refine segM q_ (by kernel_rfl) ?_; clear q_; (repeat (first | with_reducible refine tt ?_ | refine And.intro (by first | with_reducible assumption | kernel_rfl | omega | (simp only [inR, List.length_cons, List.length_nil]; omega)) ?_)))
        refine ex2 ch p ⟨by kernel_rfl, by kernel_rfl, hpo.1, ?_⟩
        (show ?g300; have q_ : type_of% (px (G := ?g300) (by (conv => rhs; whnf); (repeat ((first | (apply sgA; with_reducible assumption) | (apply sgT; kernel_rfl) | apply sgP); (conv => rhs; whnf))); exact sgI)) := trivial; refine segM q_ (by kernel_rfl) ?_; clear q_; (repeat (first | with_reducible refine tt ?_ | refine And.intro (by first | with_reducible assumption | kernel_rfl | omega | (simp only [inR, List.length_cons, List.length_nil]; omega)) ?_)))
        refine ⟨(show PyData.depthAll [.int 10, .int 11] ≤ 50 by decide +kernel), ?_⟩
        (show ?g301; have q_ : type_of% (px (G := ?g301) (by (conv => rhs; whnf); (repeat ((first | (apply sgA; with_reducible assumption) | (apply sgT; kernel_rfl) | apply sgP); (conv => rhs; whnf))); exact sgI)) := trivial; refine segM q_ (by kernel_rfl) ?_; clear q_; (repeat (first | with_reducible refine tt ?_ | refine And.intro (by first | with_reducible assumption | kernel_rfl | omega | (simp only [inR, List.length_cons, List.length_nil]; omega)) ?_)))
        exact Eq.mp (by kernel_rfl) g
      | space =>
        have q7 : decide (catOf ch 120 = 7) = false := by rw [C.x]; rfl
        have q7' : decide (catOf ch 32 = 7) = false := by rw [C.sp]; rfl
        cases s with
        | true =>
          have g := fin a' b' ((F.x C).up (by omega)) ha' hb' hb''
          rw [← rowPV_app] at g
          (show ?g302; have q_ : type_of% (px (G := ?g302) (by (conv => rhs; whnf); (repeat ((first | (apply sgA; with_reducible assumption) | (apply sgT; kernel_rfl) | apply sgP); (conv => rhs; whnf))); exact sgI)) := trivial; refine segM q_ (by kernel_rfl) ?_; clear q_; (repeat (first | with_reducible refine tt ?_ | refine And.intro (by first | with_reducible assumption | kernel_rfl | omega | (simp only [inR, List.length_cons, List.length_nil]; omega)) ?_)))
          refine drecG (fun e => ?_) (fun e => ?_)
          · (show ?g303; have q_ : type_of% (px (G := ?g303) (by (conv => rhs; whnf); (repeat ((first | (apply sgA; with_reducible assumption) | (apply sgT; kernel_rfl) | apply sgP); (conv => rhs; whnf))); exact sgI)) := trivial; refine segM q_ (by kernel_rfl) ?_; clear q_; (repeat (first | with_reducible refine tt ?_ | refine And.intro (by first | with_reducible assumption | kernel_rfl | omega | (simp only [inR, List.length_cons, List.length_nil]; omega)) ?_)))
            refine drec (fun e' => absurd (e'.symm.trans e) (by decide)) (fun _z => ?_)
            (show ?g304; have q_ : type_of% (px (G := ?g304) (by (conv => rhs; whnf); (repeat ((first | (apply sgA; with_reducible assumption) | (apply sgT; kernel_rfl) | apply sgP); (conv => rhs; whnf))); exact sgI)) := trivial; refine segM q_ (by kernel_rfl) ?_; clear q_; (repeat (first | with_reducible refine tt ?_ | refine And.intro (by first | with_reducible assumption | kernel_rfl | omega | (simp only [inR, List.length_cons, List.length_nil]; omega)) ?_)))
            exact Eq.mp (by kernel_rfl) g
          · have e : 120 = last := of_decide_eq_true (neF (show ¬ decide (120 = last) = false from e))
            subst e
            (show ?g305; have q_ : type_of% (px (G := ?g305) (by (conv => rhs; whnf); (repeat ((first | (apply sgA; with_reducible assumption) | (apply sgT; kernel_rfl) | apply sgP); (conv => rhs; whnf))); exact sgI)) := trivial; refine segM q_ (by kernel_rfl) ?_; clear q_; (repeat (first | with_reducible refine tt ?_ | refine And.intro (by first | with_reducible assumption | kernel_rfl | omega | (simp only [inR, List.length_cons, List.length_nil]; omega)) ?_)))
            refine ex2 ch 120 ⟨by kernel_rfl, by kernel_rfl, by decide, ?_⟩
            (show ?g306; have q_ : type_of% (px (G := ?g306) (by (conv => rhs; whnf); (repeat ((first | (apply sgA; with_reducible assumption) | (apply sgT; kernel_rfl) | apply sgP); (conv => rhs; whnf))); exact sgI)) := trivial; refine segM q_ (by kernel_rfl) ?_; clear q_; (repeat (first | with_reducible refine tt ?_ | refine And.intro (by first | with_reducible assumption | kernel_rfl | omega | (simp only [inR, List.length_cons, List.length_nil]; omega)) ?_)))
            refine drecG (fun _z => ?_) (fun e => absurd q7 e)
            (show ?g307; have q_ : type_of% (px (G := ?g307) (by (conv => rhs; whnf); (repeat ((first | (apply sgA; with_reducible assumption) | (apply sgT; kernel_rfl) | apply sgP); (conv => rhs; whnf))); exact sgI)) := trivial; refine segM q_ (by kernel_rfl) ?_; clear q_; (repeat (first | with_reducible refine tt ?_ | refine And.intro (by first | with_reducible assumption | kernel_rfl | omega | (simp only [inR, List.length_cons, List.length_nil]; omega)) ?_)))
            refine drec (fun e' => absurd (e'.symm.trans q7) (by decide)) (fun _z => ?_)
            (show ?g308; have q_ : type_of% (px (G := ?g308) (by (conv => rhs; whnf); (repeat ((first | (apply sgA; with_reducible assumption) | (apply sgT; kernel_rfl) | apply sgP); (conv => rhs; whnf))); exact sgI)) := trivial; refine segM q_ (by kernel_rfl) ?_; clear q_; (repeat (first | with_reducible refine tt ?_ | refine And.intro (by first | with_reducible assumption | kernel_rfl | omega | (simp only [inR, List.length_cons, List.length_nil]; omega)) ?_)))
            exact Eq.mp (by kernel_rfl) g
        | false =>
          have g := fin a' b' (F.space.up (by omega)) ha' hb' hb''
          rw [← rowPV_app] at g
          (show ?g309; have q_ : type_of% (px (G := ?g309) (by (conv => rhs; whnf); (repeat ((first | (apply sgA; with_reducible assumption) | (apply sgT; kernel_rfl) | apply sgP); (conv => rhs; whnf))); exact sgI)) := trivial; refine segM q_ (by kernel_rfl) ?_; clear q_; (repeat (first | with_reducible refine tt ?_ | refine And.intro (by first | with_reducible assumption | kernel_rfl | omega | (simp only [inR, List.length_cons, List.length_nil]; omega)) ?_)))
          refine drecG (fun e => ?_) (fun e => ?_)
          · (show ?g310; have q_ : type_of% (px (G := ?g310) (by (conv => rhs; whnf); (repeat ((first | (apply sgA; with_reducible assumption) | (apply sgT; kernel_rfl) | apply sgP); (conv => rhs; whnf))); exact sgI)) := trivial; refine segM q_ (by kernel_rfl) ?_; clear q_; (repeat (first | with_reducible refine tt ?_ | refine And.intro (by first | with_reducible assumption | kernel_rfl | omega | (simp only [inR, List.length_cons, List.length_nil]; omega)) ?_)))
            refine drec (fun e' => absurd (e'.symm.trans e) (by decide)) (fun _z => ?_)
            (show ?g311; have q_ : type_of% (px (G := ?g311) (by (conv => rhs; whnf); (repeat ((first | (apply sgA; with_reducible assumption) | (apply sgT; kernel_rfl) | apply sgP); (conv => rhs; whnf))); exact sgI)) := trivial; refine segM q_ (by kernel_rfl) ?_; clear q_; (repeat (first | with_reducible refine tt ?_ | refine And.intro (by first | with_reducible assumption | kernel_rfl | omega | (simp only [inR, List.length_cons, List.length_nil]; omega)) ?_)))
            exact Eq.mp (by kernel_rfl) g
          · have e : 32 = last := of_decide_eq_true (neF (show ¬ decide (32 = last) = false from e))
            subst e
            (show ?g312; have q_ : type_of% (px (G := ?g312) (by (conv => rhs; whnf); (repeat ((first | (apply sgA; with_reducible assumption) | (apply sgT; kernel_rfl) | apply sgP); (conv => rhs; whnf))); exact sgI)) := trivial; refine segM q_ (by kernel_rfl) ?_; clear q_; (repeat (first | with_reducible refine tt ?_ | refine And.intro (by first | with_reducible assumption | kernel_rfl | omega | (simp only [inR, List.length_cons, List.length_nil]; omega)) ?_)))
            refine ex2 ch 32 ⟨by kernel_rfl, by kernel_rfl, by decide, ?_⟩
            (show ?g313; have q_ : type_of% (px (G := ?g313) (by (conv => rhs; whnf); (repeat ((first | (apply sgA; with_reducible assumption) | (apply sgT; kernel_rfl) | apply sgP); (conv => rhs; whnf))); exact sgI)) := trivial; refine segM q_ (by kernel_rfl) ?_; clear q_; (repeat (first | with_reducible refine tt ?_ | refine And.intro (by first | with_reducible assumption | kernel_rfl | omega | (simp only [inR, List.length_cons, List.length_nil]; omega)) ?_)))
            refine drecG (fun _z => ?_) (fun e => absurd q7' e)
            (show ?g314; have q_ : type_of% (px (G := ?g314) (by (conv => rhs; whnf); (repeat ((first | (apply sgA; with_reducible assumption) | (apply sgT; kernel_rfl) | apply sgP); (conv => rhs; whnf))); exact sgI)) := trivial; refine segM q_ (by kernel_rfl) ?_; clear q_; (repeat (first | with_reducible refine tt ?_ | refine And.intro (by first | with_reducible assumption | kernel_rfl | omega | (simp only [inR, List.length_cons, List.length_nil]; omega)) ?_)))
            refine drec (fun e' => absurd (e'.symm.trans q7') (by decide)) (fun _z => ?_)
            (show ?g315; have q_ : type_of% (px (G := ?g315) (by (conv => rhs; whnf); (repeat ((first | (apply sgA; with_reducible assumption) | (apply sgT; kernel_rfl) | apply sgP); (conv => rhs; whnf))); exact sgI)) := trivial; refine segM q_ (by kernel_rfl) ?_; clear q_; (repeat (first | with_reducible refine tt ?_ | refine And.intro (by first | with_reducible assumption | kernel_rfl | omega | (simp only [inR, List.length_cons, List.length_nil]; omega)) ?_)))
            exact Eq.mp (by kernel_rfl) g
    · rintro vars H ⟨f, found, s, last, a, b, c, f1, F, -, rfl, rfl⟩
      have hk := hk _ _ ⟨j + 1, rest, rfl, fun x hx => q2 x (.tail _ hx), by simp at q3; omega, found, s, last, F.up (by simp at f1; omega), rfl, rfl⟩
      (show ?g316; have q_ : type_of% (px (G := ?g316) (by (conv => rhs; whnf); (repeat ((first | (apply sgA; with_reducible assumption) | (apply sgT; kernel_rfl) | apply sgP); (conv => rhs; whnf))); exact sgI)) := trivial; refine segM q_ (by kernel_rfl) ?_; clear q_; (repeat (first | with_reducible refine tt ?_ | refine And.intro (by first | with_reducible assumption | kernel_rfl | omega | (simp only [inR, List.length_cons, List.length_nil]; omega)) ?_)))
      exact Eq.mp (by kernel_rfl) hk
  · rintro vars H ⟨j, rest, q1, q2, q3, found, s, last, F, rfl, rfl⟩
    cases rest with
    | cons => cases q1
    | nil =>
    have hl := F.len
    have hjr : j = 4 := by simpa using q3
    have hlen : (rowPV found).length ≤ 32 := by rw [rowPV_len]; omega
    have h := h found (F.ext _ (xOk C .nil)) (by omega)
    rw [← rowPV_app] at h
    (show ?g317; have q_ : type_of% (px (G := ?g317) (by (conv => rhs; whnf); (repeat ((first | (apply sgA; with_reducible assumption) | (apply sgT; kernel_rfl) | apply sgP); (conv => rhs; whnf))); exact sgI)) := trivial; refine segM q_ (by kernel_rfl) ?_; clear q_; (repeat (first | with_reducible refine tt ?_ | refine And.intro (by first | with_reducible assumption | kernel_rfl | omega | (simp only [inR, List.length_cons, List.length_nil]; omega)) ?_)))
    refine ⟨Nat.le_trans (show (rowPV found).length + 1 ≤ 33 by omega) (by decide), ?_⟩
    (show ?g318; have q_ : type_of% (px (G := ?g318) (by (conv => rhs; whnf); (repeat ((first | (apply sgA; with_reducible assumption) | (apply sgT; kernel_rfl) | apply sgP); (conv => rhs; whnf))); exact sgI)) := trivial; refine segM q_ (by kernel_rfl) ?_; clear q_; (repeat (first | with_reducible refine tt ?_ | refine And.intro (by first | with_reducible assumption | kernel_rfl | omega | (simp only [inR, List.length_cons, List.length_nil]; omega)) ?_)))
    exact Eq.mp (by kernel_rfl) h
theorem s421 (B : Bs w h₀) : Sound prog w h₀ 421 10 ct421 := (sd421 (lev := 8) B f421 (consΓ ((s395 B).mono (by omega)) (consΓ ((s402 B).mono (by omega)) (consΓ (s414 B) (consΓ ((s409 B).mono (by omega)) noΓ))))).imp t421
end

noncomputable def LT.num (l : List Str) : LT → Int × Int
  | .ch c x => (c, x)
  | .nm t => (0, numTo t l)
noncomputable def LtIn (l : List Str) : LT → Prop
  | .ch c _ => c ≠ 0
  | .nm t => 0 ≤ numTo t l ∧ l[(numTo t l).toNat]? = some t
inductive RdL (rows codes : List Int) (l : List Str) : Nat → Int → List LT → Prop
  | nil {st} : RdL rows codes l codes.length st []
  | cons {k st t k' st' r} : ReadR rows codes l k st (t.num l) l k' st' → LtIn l t → RdL rows codes l k' st' r → RdL rows codes l k st (t :: r)
noncomputable def CNH (l : List Str) (rows : List Int) : AH := [.inst 235 1, .ns [(sn "rows", .ref 2)], .list (intPV rows), .inst 187 4, nsN 5 6, .sdict (numsFrom 0 l), .list (strPV l)]
noncomputable def RH (cs : List Int) (l : List Str) (rows : List Int) (s : LS) (done : List LT) : AH := CNH l rows ++ [.list (intPV cs), lnNs s 3 12, .inst 377 8, .list [], .list (rowPV done), .list (intPV cs)]
noncomputable def RV (cs : List Int) (v : SV) : Vars := [(sn "text", T' (strOf cs)), (sn "cats", .ref 0), (sn "names", .ref 3), (sn "lines", .ref 9), (sn "found", .ref 11), (sn "token", v)]
section
variable {prog : Program} {w : World} {h₀ : Heap}
noncomputable def U433 : List (Str × SV) := [(sn "Lines", .raw (.ref 377)), (sn "bytes", .raw (.type "bytes")), (sn "ord", .raw (.builtin "ord")), (sn "len", .raw (.builtin "len"))]
theorem f433 : facts U433 [sn "text", sn "cats", sn "names"] [] [sn "lines", sn "found", sn "token"] (tl 49) := ⟨⟨by kernel_rfl, by kernel_rfl⟩, by kernel_rfl⟩
noncomputable def ct433 : CT := fun args H K => ∃ (cs : List Int) (l : List Str) (rows : List Int) (t0 : LT) (ts : List LT) (k1 : Nat) (st1 : Int), args = [T' (strOf cs), .ref 0, .ref 3] ∧ H = CNH l rows ∧ Good cs rows ∧ cs.length ≤ 1000 ∧
  (∃ x, cs.getLast? = some x ∧ x ≠ 32) ∧ (∀ c ∈ cs, c ≠ 10) ∧ l.length < 900 ∧ StepR rows cs l 0 0 (.p (tokPV (t0.num l))) l k1 st1 ∧ LtIn l t0 ∧ RdL rows cs l k1 st1 ts ∧ ts.length ≤ 100 ∧ K (.ref 7) (CNH l rows ++ [.list (rowPV (t0 :: ts))])
theorem chars_strOf : ∀ cs : List Int, chars (strOf cs) = strPV (cs.map ch1)
  | [] => rfl
  | c :: r => congrArg (PV.str (ch1 c) :: ·) (chars_strOf r)
set_option tactic.hygienic true in
theorem t433 : ∀ args H K, ct433 args H K → ctD 14 [(377, ct377), (332, ctRd), (177, ct177)] U433 [sn "text", sn "cats", sn "names"] [] [sn "lines", sn "found", sn "token"] (tl 49) [] args H K := by
  rintro args H K ⟨cs, l, rows, t0, ts, k1, st1, rfl, rfl, G, hcl, hx, hn, hl, R0, hi0, R, hts, h⟩
  (show ?g319; have q_ : type_of% (px (G := ?g319) (by (conv => rhs; whnf); (repeat ((first | (apply sgA; with_reducible assumption) | (apply sgT; kernel_rfl) | apply sgP); (conv => rhs; whnf))); exact sgI)) := trivial; refine segM q_ (by kernel_rfl) ?_; clear q_; (repeat (first | with_reducible refine tt ?_ | refine And.intro (by first | with_reducible assumption | kernel_rfl | omega | (simp only [inR, List.length_cons, List.length_nil]; omega)) ?_)))
  refine ⟨strPV (cs.map ch1), (congrArg some (chars_strOf cs)), ?_⟩
  refine compK_ind (fun l' acc H => ∃ (rest done : List Int), l' = strPV (rest.map ch1) ∧ acc = intPV done ∧ cs = done ++ rest ∧ H = CNH l rows) ?_ ?_ _ _ _ ⟨cs, [], rfl, rfl, rfl, by kernel_rfl⟩
  · rintro i r acc H Kt ⟨rest, done, q1, rfl, q2, rfl⟩ hk
    cases rest with
    | nil => cases q1
    | cons c rest =>
    cases q1
    have hc := G.oct c (by rw [q2]; simp)
    have hdl : done.length ≤ 1000 := by rw [q2] at hcl; simp at hcl; omega
    obtain ⟨n, rfl⟩ := Int.eq_ofNat_of_zero_le hc.1
    (show ?g320; have q_ : type_of% (px (G := ?g320) (by (conv => rhs; whnf); (repeat ((first | (apply sgA; with_reducible assumption) | (apply sgT; kernel_rfl) | apply sgP); (conv => rhs; whnf))); exact sgI)) := trivial; refine segM q_ (by kernel_rfl) ?_; clear q_; (repeat (first | with_reducible refine tt ?_ | refine And.intro (by first | with_reducible assumption | kernel_rfl | omega | (simp only [inR, List.length_cons, List.length_nil]; omega)) ?_)))
    refine ⟨by rw [intPV_len]; omega, ?_⟩
    (show ?g321; have q_ : type_of% (px (G := ?g321) (by (conv => rhs; whnf); (repeat ((first | (apply sgA; with_reducible assumption) | (apply sgT; kernel_rfl) | apply sgP); (conv => rhs; whnf))); exact sgI)) := trivial; refine segM q_ (by kernel_rfl) ?_; clear q_; (repeat (first | with_reducible refine tt ?_ | refine And.intro (by first | with_reducible assumption | kernel_rfl | omega | (simp only [inR, List.length_cons, List.length_nil]; omega)) ?_)))
    refine hk _ _ ⟨rest, done ++ [(n : Int)], rfl, ?_, by rw [q2]; simp, by kernel_rfl⟩
    unfold intPV
    rw [List.map_append]
    rfl
  · rintro acc H ⟨rest, done, q1, rfl, q2, rfl⟩
    cases rest with
    | cons => cases q1
    | nil =>
    rw [List.append_nil] at q2
    subst q2
    (show ?g322; have q_ : type_of% (px (G := ?g322) (by (conv => rhs; whnf); (repeat ((first | (apply sgA; with_reducible assumption) | (apply sgT; kernel_rfl) | apply sgP); (conv => rhs; whnf))); exact sgI)) := trivial; refine segM q_ (by kernel_rfl) ?_; clear q_; (repeat (first | with_reducible refine tt ?_ | refine And.intro (by first | with_reducible assumption | kernel_rfl | omega | (simp only [inR, List.length_cons, List.length_nil]; omega)) ?_)))
    rw [intsOf_intPV]
    (show ?g323; have q_ : type_of% (px (G := ?g323) (by (conv => rhs; whnf); (repeat ((first | (apply sgA; with_reducible assumption) | (apply sgT; kernel_rfl) | apply sgP); (conv => rhs; whnf))); exact sgI)) := trivial; refine segM q_ (by kernel_rfl) ?_; clear q_; (repeat (first | with_reducible refine tt ?_ | refine And.intro (by first | with_reducible assumption | kernel_rfl | omega | (simp only [inR, List.length_cons, List.length_nil]; omega)) ?_)))
    refine ⟨fun n hn => by have := G.oct n hn; omega, by rw [intPV_len]; exact Nat.le_trans hcl (by decide), ?_⟩
    (show ?g324; have q_ : type_of% (px (G := ?g324) (by (conv => rhs; whnf); (repeat ((first | (apply sgA; with_reducible assumption) | (apply sgT; kernel_rfl) | apply sgP); (conv => rhs; whnf))); exact sgI)) := trivial; refine segM q_ (by kernel_rfl) ?_; clear q_; (repeat (first | with_reducible refine tt ?_ | refine And.intro (by first | with_reducible assumption | kernel_rfl | omega | (simp only [inR, List.length_cons, List.length_nil]; omega)) ?_)))
    refine ex2 (byteArr cs) l ⟨by kernel_rfl, by kernel_rfl, ?_⟩
    (show ?g325; have q_ : type_of% (px (G := ?g325) (by (conv => rhs; whnf); (repeat ((first | (apply sgA; with_reducible assumption) | (apply sgT; kernel_rfl) | apply sgP); (conv => rhs; whnf))); exact sgI)) := trivial; refine segM q_ (by kernel_rfl) ?_; clear q_; (repeat (first | with_reducible refine tt ?_ | refine And.intro (by first | with_reducible assumption | kernel_rfl | omega | (simp only [inR, List.length_cons, List.length_nil]; omega)) ?_)))
    refine ex4 ⟨byteArr cs, 0, 0, 0, 0⟩ [] l rows ⟨by kernel_rfl, by kernel_rfl, .inr (.inl ⟨cs, t0.num l, l, k1, st1, rfl, G, rfl, rfl, rfl, hx, hn, R0, ?_⟩)⟩
    (show ?g326; have q_ : type_of% (px (G := ?g326) (by (conv => rhs; whnf); (repeat ((first | (apply sgA; with_reducible assumption) | (apply sgT; kernel_rfl) | apply sgP); (conv => rhs; whnf))); exact sgI)) := trivial; refine segM q_ (by kernel_rfl) ?_; clear q_; (repeat (first | with_reducible refine tt ?_ | refine And.intro (by first | with_reducible assumption | kernel_rfl | omega | (simp only [inR, List.length_cons, List.length_nil]; omega)) ?_)))
    refine ⟨ts.length + 2, ?_⟩
    refine whileK_ind2 (fun m vars H =>
        (∃ done t r k st, t0 :: ts = done ++ t :: r ∧ r.length + 1 ≤ m ∧ vars = RV cs (.p (tokPV (t.num l))) ∧ H = RH cs l rows ⟨byteArr cs, cs.length + 1, (k : Nat), st, 1⟩ done ∧ LtIn l t ∧ RdL rows cs l k st r) ∨
        (∃ st, vars = RV cs (.p .none) ∧ H = RH cs l rows ⟨byteArr cs, cs.length + 1, cs.length, st, 1⟩ (t0 :: ts)))
      (fun vars H => ∃ st, vars = RV cs (.p .none) ∧ H = RH cs l rows ⟨byteArr cs, cs.length + 1, cs.length, st, 1⟩ (t0 :: ts)) ?_ ?_ ?_ _ _ _
      (.inl ⟨[], t0, ts, k1, st1, rfl, by omega, by kernel_rfl, by kernel_rfl, hi0, R⟩)
    · rintro m vars H Kt Ke hJ hk hx'
      rcases hJ with ⟨done, t, r, k, st, e1, e2, rfl, rfl, hi, R⟩ | ⟨st, rfl, rfl⟩
      · have hz0 : done.length + r.length ≤ 100 := by
          have := congrArg List.length e1
          simp at this
          omega
        have hz1 : (rowPV done).length ≤ sizeLine := by rw [rowPV_len]; exact Nat.le_trans (show done.length ≤ 200 by omega) (by decide)
        have hz2 := rowPV_len done
        have hlt : decide (((rowPV done).length : Int) < 200) = true := decide_eq_true (by omega)
        cases t with
        | ch c x =>
          have qc : (!decide (c = 0)) = true := by rw [decide_eq_false (show ¬ c = 0 from hi)]; rfl
          have eo : ∀ X, t0 :: ts = done ++ .ch c x :: X → t0 :: ts = (done ++ [.ch c x]) ++ X := fun X q => by rw [q, List.append_assoc]; rfl
          have ra := rowPV_app done (.ch c x)
          (show ?g327; have q_ : type_of% (px (G := ?g327) (by (conv => rhs; whnf); (repeat ((first | (apply sgA; with_reducible assumption) | (apply sgT; kernel_rfl) | apply sgP); (conv => rhs; whnf))); exact sgI)) := trivial; refine segM q_ (by kernel_rfl) ?_; clear q_; (repeat (first | with_reducible refine tt ?_ | refine And.intro (by first | with_reducible assumption | kernel_rfl | omega | (simp only [inR, List.length_cons, List.length_nil]; omega)) ?_)))
          refine drecG (fun e => absurd (hlt.symm.trans e) (by decide)) (fun _z => ?_)
          (show ?g328; have q_ : type_of% (px (G := ?g328) (by (conv => rhs; whnf); (repeat ((first | (apply sgA; with_reducible assumption) | (apply sgT; kernel_rfl) | apply sgP); (conv => rhs; whnf))); exact sgI)) := trivial; refine segM q_ (by kernel_rfl) ?_; clear q_; (repeat (first | with_reducible refine tt ?_ | refine And.intro (by first | with_reducible assumption | kernel_rfl | omega | (simp only [inR, List.length_cons, List.length_nil]; omega)) ?_)))
          refine drec (fun _z => ?_) (fun e => absurd (qc.symm.trans e) (by decide))
          (show ?g329; have q_ : type_of% (px (G := ?g329) (by (conv => rhs; whnf); (repeat ((first | (apply sgA; with_reducible assumption) | (apply sgT; kernel_rfl) | apply sgP); (conv => rhs; whnf))); exact sgI)) := trivial; refine segM q_ (by kernel_rfl) ?_; clear q_; (repeat (first | with_reducible refine tt ?_ | refine And.intro (by first | with_reducible assumption | kernel_rfl | omega | (simp only [inR, List.length_cons, List.length_nil]; omega)) ?_)))
          rcases R with _ | ⟨R1, hi', R2⟩
          · have hk := hk (m - 1) _ _ (by omega) (.inr ⟨st, rfl, rfl⟩)
            have e1 := eo _ e1
            rw [List.append_nil] at e1
            rw [e1] at hk
            unfold RH at hk
            rw [← ra] at hk
            refine ex4 ⟨byteArr cs, cs.length + 1, cs.length, st, 1⟩ cs l rows ⟨by kernel_rfl, by kernel_rfl, .inr (.inr ⟨cs, rfl, G.oct, by omega, show (cs.length : Int) ≤ cs.length + 1 by omega, rfl, by omega, ?_⟩)⟩
            (show ?g330; have q_ : type_of% (px (G := ?g330) (by (conv => rhs; whnf); (repeat ((first | (apply sgA; with_reducible assumption) | (apply sgT; kernel_rfl) | apply sgP); (conv => rhs; whnf))); exact sgI)) := trivial; refine segM q_ (by kernel_rfl) ?_; clear q_; (repeat (first | with_reducible refine tt ?_ | refine And.intro (by first | with_reducible assumption | kernel_rfl | omega | (simp only [inR, List.length_cons, List.length_nil]; omega)) ?_)))
            exact Eq.mp (by kernel_rfl) hk
          · rename_i t' k' st' r'
            have hk := hk (m - 1) _ _ (by simp at e2; omega) (.inl ⟨done ++ [.ch c x], t', r', k', st', eo _ e1, by simp at e2; omega, rfl, rfl, hi', R2⟩)
            unfold RH at hk
            rw [← ra] at hk
            refine ex4 ⟨byteArr cs, cs.length + 1, (k : Nat), st, 1⟩ cs l rows ⟨by kernel_rfl, by kernel_rfl, .inl ⟨G, k, t'.num l, l, k', st', rfl, R1, ?_⟩⟩
            (show ?g331; have q_ : type_of% (px (G := ?g331) (by (conv => rhs; whnf); (repeat ((first | (apply sgA; with_reducible assumption) | (apply sgT; kernel_rfl) | apply sgP); (conv => rhs; whnf))); exact sgI)) := trivial; refine segM q_ (by kernel_rfl) ?_; clear q_; (repeat (first | with_reducible refine tt ?_ | refine And.intro (by first | with_reducible assumption | kernel_rfl | omega | (simp only [inR, List.length_cons, List.length_nil]; omega)) ?_)))
            exact Eq.mp (by kernel_rfl) hk
        | nm tx =>
          have eo : ∀ X, t0 :: ts = done ++ .nm tx :: X → t0 :: ts = (done ++ [.nm tx]) ++ X := fun X q => by rw [q, List.append_assoc]; rfl
          have ra := rowPV_app done (.nm tx)
          (show ?g332; have q_ : type_of% (px (G := ?g332) (by (conv => rhs; whnf); (repeat ((first | (apply sgA; with_reducible assumption) | (apply sgT; kernel_rfl) | apply sgP); (conv => rhs; whnf))); exact sgI)) := trivial; refine segM q_ (by kernel_rfl) ?_; clear q_; (repeat (first | with_reducible refine tt ?_ | refine And.intro (by first | with_reducible assumption | kernel_rfl | omega | (simp only [inR, List.length_cons, List.length_nil]; omega)) ?_)))
          refine drecG (fun e => absurd (hlt.symm.trans e) (by decide)) (fun _z => ?_)
          (show ?g333; have q_ : type_of% (px (G := ?g333) (by (conv => rhs; whnf); (repeat ((first | (apply sgA; with_reducible assumption) | (apply sgT; kernel_rfl) | apply sgP); (conv => rhs; whnf))); exact sgI)) := trivial; refine segM q_ (by kernel_rfl) ?_; clear q_; (repeat (first | with_reducible refine tt ?_ | refine And.intro (by first | with_reducible assumption | kernel_rfl | omega | (simp only [inR, List.length_cons, List.length_nil]; omega)) ?_)))
          refine ex3 l (numTo tx l) tx ⟨by kernel_rfl, by kernel_rfl, by omega, hi.1, hi.2, ?_⟩
          (show ?g334; have q_ : type_of% (px (G := ?g334) (by (conv => rhs; whnf); (repeat ((first | (apply sgA; with_reducible assumption) | (apply sgT; kernel_rfl) | apply sgP); (conv => rhs; whnf))); exact sgI)) := trivial; refine segM q_ (by kernel_rfl) ?_; clear q_; (repeat (first | with_reducible refine tt ?_ | refine And.intro (by first | with_reducible assumption | kernel_rfl | omega | (simp only [inR, List.length_cons, List.length_nil]; omega)) ?_)))
          rcases R with _ | ⟨R1, hi', R2⟩
          · have hk := hk (m - 1) _ _ (by omega) (.inr ⟨st, rfl, rfl⟩)
            have e1 := eo _ e1
            rw [List.append_nil] at e1
            rw [e1] at hk
            unfold RH at hk
            rw [← ra] at hk
            refine ex4 ⟨byteArr cs, cs.length + 1, cs.length, st, 1⟩ cs l rows ⟨by kernel_rfl, by kernel_rfl, .inr (.inr ⟨cs, rfl, G.oct, by omega, show (cs.length : Int) ≤ cs.length + 1 by omega, rfl, by omega, ?_⟩)⟩
            (show ?g335; have q_ : type_of% (px (G := ?g335) (by (conv => rhs; whnf); (repeat ((first | (apply sgA; with_reducible assumption) | (apply sgT; kernel_rfl) | apply sgP); (conv => rhs; whnf))); exact sgI)) := trivial; refine segM q_ (by kernel_rfl) ?_; clear q_; (repeat (first | with_reducible refine tt ?_ | refine And.intro (by first | with_reducible assumption | kernel_rfl | omega | (simp only [inR, List.length_cons, List.length_nil]; omega)) ?_)))
            exact Eq.mp (by kernel_rfl) hk
          · rename_i t' k' st' r'
            have hk := hk (m - 1) _ _ (by simp at e2; omega) (.inl ⟨done ++ [.nm tx], t', r', k', st', eo _ e1, by simp at e2; omega, rfl, rfl, hi', R2⟩)
            unfold RH at hk
            rw [← ra] at hk
            refine ex4 ⟨byteArr cs, cs.length + 1, (k : Nat), st, 1⟩ cs l rows ⟨by kernel_rfl, by kernel_rfl, .inl ⟨G, k, t'.num l, l, k', st', rfl, R1, ?_⟩⟩
            (show ?g336; have q_ : type_of% (px (G := ?g336) (by (conv => rhs; whnf); (repeat ((first | (apply sgA; with_reducible assumption) | (apply sgT; kernel_rfl) | apply sgP); (conv => rhs; whnf))); exact sgI)) := trivial; refine segM q_ (by kernel_rfl) ?_; clear q_; (repeat (first | with_reducible refine tt ?_ | refine And.intro (by first | with_reducible assumption | kernel_rfl | omega | (simp only [inR, List.length_cons, List.length_nil]; omega)) ?_)))
            exact Eq.mp (by kernel_rfl) hk
      · have hx := hx' _ _ ⟨st, rfl, rfl⟩
        (show ?g337; have q_ : type_of% (px (G := ?g337) (by (conv => rhs; whnf); (repeat ((first | (apply sgA; with_reducible assumption) | (apply sgT; kernel_rfl) | apply sgP); (conv => rhs; whnf))); exact sgI)) := trivial; refine segM q_ (by kernel_rfl) ?_; clear q_; (repeat (first | with_reducible refine tt ?_ | refine And.intro (by first | with_reducible assumption | kernel_rfl | omega | (simp only [inR, List.length_cons, List.length_nil]; omega)) ?_)))
        exact Eq.mp (by kernel_rfl) hx
    · rintro m m' vars H hm (⟨done, t, r, k, st, e1, e2, q⟩ | q)
      · exact .inl ⟨done, t, r, k, st, e1, by omega, q⟩
      · exact .inr q
    · rintro vars H ⟨st, rfl, rfl⟩
      (show ?g338; have q_ : type_of% (px (G := ?g338) (by (conv => rhs; whnf); (repeat ((first | (apply sgA; with_reducible assumption) | (apply sgT; kernel_rfl) | apply sgP); (conv => rhs; whnf))); exact sgI)) := trivial; refine segM q_ (by kernel_rfl) ?_; clear q_; (repeat (first | with_reducible refine tt ?_ | refine And.intro (by first | with_reducible assumption | kernel_rfl | omega | (simp only [inR, List.length_cons, List.length_nil]; omega)) ?_)))
      exact Eq.mp (by kernel_rfl) h
theorem s433 (B : Bs w h₀) : Sound prog w h₀ 433 16 ct433 := (sd433 (lev := 14) B f433 (consΓ ((s377 B).mono (by omega)) (consΓ (s332 B) (consΓ ((s177 B).mono (by omega)) noΓ)))).imp t433
end

noncomputable def strC (t : Str) : List Int := t.cps.toList.map fun (n : Nat) => (n : Int)
theorem strOf_strC (t : Str) : strOf (strC t) = t := by
  obtain ⟨a⟩ := t
  unfold strOf strC
  simp [List.map_map, Function.comp_def]
theorem strC_strOf {cs : List Int} (h : ∀ c ∈ cs, 0 ≤ c) : strC (strOf cs) = cs := by
  unfold strOf strC
  simp only [List.map_map]
  refine (List.map_congr_left fun c hc => ?_).trans (List.map_id cs)
  exact Int.toNat_of_nonneg (h c hc)
theorem strOf_app (a b : List Int) : strOf (a ++ b) = strOf a ++ strOf b := by
  unfold strOf
  show _ = Str.append _ _
  simp [Str.append]
theorem strOf_inj {a b : List Int} (h : strOf a = strOf b) (ha : ∀ c ∈ a, 0 ≤ c) (hb : ∀ c ∈ b, 0 ≤ c) : a = b := by
  rw [← strC_strOf ha, ← strC_strOf hb, h]
variable {ch : List (Int × Int)} {esc : Int} {rows : List Int} {l : List Str}
noncomputable def wrC (ch : List (Int × Int)) (esc : Int) : LT → List Int
  | .ch _ x => [x]
  | .nm t => if bareL ch t = true then esc :: strC t else esc :: (strC t ++ [32])
theorem wrC_nm (t : Str) : wrC ch esc (.nm t) = if bareL ch t = true then esc :: strC t else esc :: (strC t ++ [32]) := rfl
theorem wr_codes (t : LT) : wr ch esc t = strOf (wrC ch esc t) := by
  cases t with
  | ch c x => rfl
  | nm t =>
    have e : ch1 esc ++ t = strOf (esc :: strC t) := by
      rw [show esc :: strC t = [esc] ++ strC t from rfl, strOf_app, strOf_strC]; rfl
    rw [wr_nm, wrC_nm]
    split
    · rw [← e]; exact Str.append_empty _
    · rw [e, show esc :: (strC t ++ [32]) = (esc :: strC t) ++ [32] from rfl, strOf_app]; rfl
noncomputable def rowC (ch : List (Int × Int)) (esc : Int) (row : List LT) : List Int := row.flatMap (wrC ch esc)
theorem cat_wr : ∀ row : List LT, cat (row.map (wr ch esc)) = strOf (rowC ch esc row)
  | [] => rfl
  | t :: r => by
    show wr ch esc t ++ cat (r.map (wr ch esc)) = strOf (wrC ch esc t ++ rowC ch esc r)
    rw [cat_wr r, strOf_app, wr_codes]
structure Env (ch : List (Int × Int)) (esc : Int) (rows : List Int) (l : List Str) : Prop where
  C : ChOk ch
  O : Oct esc
  E0 : catOf ch esc = 0
  len : rows.length = 256
  rows : ∀ c, (0 ≤ c ∧ c ≤ 255) → rows[c.toNat]? = some (catOf ch c)
  names : l.length < 900
noncomputable def up (ch : List (Int × Int)) : Int → List Int → Prop
  | _, [] => True
  | p, c :: r => ¬ (c = p ∧ catOf ch p = 7) ∧ up ch c r
theorem up_ok (V : Env ch esc rows l) : ∀ (codes : List Int) (p : Int), (∀ c ∈ codes, Oct c) → up ch p codes → UpOk rows codes
  | [], _, _, _ => fun p c h => by simp at h
  | d :: r, p, ho, h => by
    intro q c hq h7 he
    cases q with
    | zero =>
      simp at hq
      subst hq
      rw [V.rows d (ho d (.head _)).1] at h7
      cases r with
      | nil => simp at he
      | cons e r =>
        simp at he
        exact h.2.1 ⟨he, Option.some.inj h7⟩
    | succ q => exact up_ok V r d (fun c hc => ho c (.tail _ hc)) h.2 q c (by simpa using hq) h7 (by simpa using he)
theorem bare_one {c : Int} (h : 0 ≤ c) : bareL ch (strOf [c]) = !decide (catOf ch c = 11) := by
  obtain ⟨n, rfl⟩ := Int.eq_ofNat_of_zero_le h
  rfl
set_option tactic.hygienic true in
theorem bare_two {cs : List Int} {c : Int} (h : cs ≠ []) : bareL ch (strOf (cs ++ [c])) = false := by
  unfold bareL
  split
  · rename_i d q
    exfalso
    unfold strOf at q
    have := congrArg List.length q
    simp at this
    exact h this
  · rfl
theorem wrC_name {cs : List Int} {c : Int} (h : cs ≠ []) (ho : ∀ x ∈ cs ++ [c], 0 ≤ x) : wrC ch esc (.nm (strOf (cs ++ [c]))) = esc :: ((cs ++ [c]) ++ [32]) := by
  rw [wrC_nm, bare_two h, strC_strOf ho]; rfl
theorem wrC_one {c : Int} (h : 0 ≤ c) : wrC ch esc (.nm (strOf [c])) = if catOf ch c = 11 then [esc, c, 32] else [esc, c] := by
  rw [wrC_nm, bare_one h, strC_strOf (by simpa using h)]
  by_cases q : catOf ch c = 11 <;> simp [q]
theorem rowC_cons (t : LT) (r : List LT) : rowC ch esc (t :: r) = wrC ch esc t ++ rowC ch esc r := rfl
theorem up_letters : ∀ (cs : List Int) (p : Int) (rest : List Int), catOf ch p ≠ 7 → (∀ c ∈ cs, catOf ch c = 11) → (∀ q, catOf ch q ≠ 7 → up ch q rest) → up ch p (cs ++ rest)
  | [], p, rest, hp, _, h => h p hp
  | c :: r, p, rest, hp, hc, h => ⟨fun q => hp q.2, up_letters r c rest (by rw [hc c (.head _)]; decide) (fun d hd => hc d (.tail _ hd)) h⟩
set_option tactic.hygienic true in
theorem up_row (V : Env ch esc rows l) : ∀ {s : Bool} {last : Int} {row : List LT}, RowOk ch s last row → ∀ p, (p = last ∨ p = 32) → up ch p (rowC ch esc row) := by
  intro s last row R
  have h32 : catOf ch 32 ≠ 7 := by rw [V.C.sp]; decide
  have hesc : catOf ch esc ≠ 7 := by rw [V.E0]; decide
  induction R with
  | nil => intro p _; trivial
  | char ho hc h7 _ ih =>
    intro p hp
    refine ⟨?_, ih _ (.inl rfl)⟩
    rintro ⟨rfl, q⟩
    rcases hp with hp | hp
    · exact h7 hp q
    · subst hp; exact h32 q
  | space _ ih =>
    intro p hp
    refine ⟨?_, ih _ (.inl rfl)⟩
    rintro ⟨rfl, q⟩
    exact h32 q
  | @name s l cs c r h0 h2 h _ ih =>
    intro p hp
    rw [rowC_cons, wrC_name h0 fun x hx => (h x hx).1.1.1]
    refine ⟨fun q => ?_, ?_⟩
    · rw [← q.1] at q; exact hesc q.2
    · have := up_letters (ch := ch) (cs ++ [c]) esc ([32] ++ rowC ch esc r) hesc (fun x hx => (h x hx).2) fun q hq => (show up ch q (32 :: rowC ch esc r) from ⟨fun z => hq z.2, ih _ (.inr rfl)⟩)
      rwa [← List.append_assoc] at this
  | @one s l c r ho _ ih =>
    intro p hp
    rw [rowC_cons, wrC_one ho.1.1]
    have first : ∀ r', (up ch c r') → up ch p (esc :: c :: r') := fun r' h => by
      refine ⟨fun q => ?_, ?_, h⟩
      · rw [← q.1] at q; exact hesc q.2
      · exact fun q => hesc q.2
    split
    · rename_i h11
      refine first (32 :: _) ⟨fun q => ?_, ih _ (.inr rfl)⟩
      rw [h11] at q; exact absurd q.2 (by decide)
    · exact first _ (ih _ (.inl rfl))
theorem oct_row (V : Env ch esc rows l) : ∀ {s : Bool} {last : Int} {row : List LT}, RowOk ch s last row → ∀ c ∈ rowC ch esc row, Oct c := by
  intro s last row R
  have o32 : Oct 32 := ⟨by decide, by decide⟩
  induction R with
  | nil => intro c h; cases h
  | char ho _ _ _ ih =>
    intro x hx
    rcases List.mem_cons.mp hx with rfl | hx
    · exact ho
    · exact ih x hx
  | space _ ih =>
    intro x hx
    rcases List.mem_cons.mp hx with rfl | hx
    · exact o32
    · exact ih x hx
  | name h0 h2 h _ ih =>
    intro x hx
    rw [rowC_cons, wrC_name h0 fun x hx => (h x hx).1.1.1] at hx
    rcases List.mem_append.mp hx with hx | hx
    · rcases List.mem_cons.mp hx with rfl | hx
      · exact V.O
      · rcases List.mem_append.mp hx with hx | hx
        · exact (h x hx).1
        · simp at hx; subst hx; exact o32
    · exact ih x hx
  | @one s l c r ho _ ih =>
    intro x hx
    rw [rowC_cons, wrC_one ho.1.1] at hx
    rcases List.mem_append.mp hx with hx | hx
    · have : x = esc ∨ x = c ∨ x = 32 := by
        split at hx <;> simp at hx
        · exact hx
        · rcases hx with q | q
          · exact .inl q
          · exact .inr (.inl q)
      rcases this with rfl | rfl | rfl
      · exact V.O
      · exact ho
      · exact o32
    · exact ih x hx
theorem len_row : ∀ {s : Bool} {last : Int} {row : List LT}, RowOk ch s last row → (rowC ch esc row).length ≤ 5 * row.length := by
  intro s last row R
  induction R with
  | nil => exact Nat.le_refl _
  | char ho _ _ _ ih => rw [rowC_cons, List.length_append]; simp [wrC]; omega
  | space _ ih => rw [rowC_cons, List.length_append]; simp [wrC]; omega
  | name h0 h2 h _ ih =>
    rw [rowC_cons, wrC_name h0 fun x hx => (h x hx).1.1.1, List.length_append]
    simp
    omega
  | @one s l c r ho _ ih =>
    rw [rowC_cons, wrC_one ho.1.1, List.length_append]
    split <;> simp <;> omega
noncomputable def tw : LT → List LT
  | .ch c x => if c = 6 then [.ch c x, .ch c x] else [.ch c x]
  | .nm t => [.nm t]
theorem tw_ch (c x : Int) : tw (.ch c x) = if c = 6 then [.ch c x, .ch c x] else [.ch c x] := rfl
noncomputable def twice (row : List LT) : List LT := row.flatMap tw
theorem twice_cons (t : LT) (r : List LT) : twice (t :: r) = tw t ++ twice r := rfl
theorem twice_app (a b : List LT) : twice (a ++ b) = twice a ++ twice b := List.flatMap_append
set_option tactic.hygienic true in
theorem twice_ok : ∀ {s : Bool} {last : Int} {row : List LT}, RowOk ch s last row → RowOk ch s last (twice row) := by
  intro s last row R
  induction R with
  | nil => exact .nil
  | @char s l c r ho hc h7 _ ih =>
    rw [twice_cons, tw_ch]
    split
    · rename_i h6
      exact .char ho hc h7 (.char ho hc (fun _z => by rw [h6]; decide) ih)
    · exact .char ho hc h7 ih
  | space _ ih => exact .space ih
  | name h0 h2 h _ ih => exact .name h0 h2 h ih
  | one ho _ ih => exact .one ho ih
theorem twice_len : ∀ row : List LT, (twice row).length ≤ 2 * row.length
  | [] => Nat.le_refl _
  | t :: r => by
    rw [twice_cons, List.length_append]
    have := twice_len r
    have : (tw t).length ≤ 2 := by
      cases t with
      | ch c x => rw [tw_ch]; split <;> simp
      | nm t => simp [tw]
    simp
    omega
theorem twice_mem {row : List LT} {t : LT} (h : t ∈ twice row) : t ∈ row := by
  obtain ⟨u, hu, ht⟩ := List.mem_flatMap.mp h
  cases u with
  | ch c x =>
    rw [tw_ch] at ht
    split at ht <;> simp at ht <;> subst ht <;> exact hu
  | nm s =>
    simp [tw] at ht
    subst ht; exact hu
noncomputable def okEnd : Bool → List LT → Prop
  | b, [] => b = true
  | _, .ch _ _ :: r => okEnd true r
  | _, .nm _ :: r => okEnd false r
theorem okEnd_x {c x : Int} : ∀ (row : List LT) (b : Bool), okEnd b (row ++ [.ch c x])
  | [], _ => rfl
  | .ch _ _ :: r, _ => okEnd_x r true
  | .nm _ :: r, _ => okEnd_x r false
theorem last_row {c x : Int} (row : List LT) : (rowC ch esc (row ++ [.ch c x])).getLast? = some x := by
  unfold rowC
  rw [List.flatMap_append]
  simp [wrC]
set_option tactic.hygienic true in
theorem at_some {t : Str} : ∀ {l : List Str}, t ∈ l → (at? t l).isSome = true
  | x :: r, h => by
    rw [at_e]
    split
    · rfl
    · rename_i e
      rcases List.mem_cons.mp h with q | q
      · exact absurd q.symm e
      · rw [Option.isSome_map]; exact at_some q
theorem in_num {t : Str} (h : t ∈ l) : LtIn l (.nm t) ∧ numL t l = l := by
  have hs := at_some h
  obtain ⟨i, hi⟩ := Option.isSome_iff_exists.mp hs
  refine ⟨?_, by unfold numL; rw [hs]; rfl⟩
  have e : numTo t l = i := by unfold numTo; rw [hi]; rfl
  show 0 ≤ numTo t l ∧ l[(numTo t l).toNat]? = some t
  rw [e]
  exact ⟨by omega, by simpa using at_get hi⟩
theorem at_mid {done m rest : List Int} {i : Nat} (h : i < m.length) : (done ++ (m ++ rest))[done.length + i]? = m[i]? := by
  rw [List.getElem?_append_right (by omega), show done.length + i - done.length = i by omega, List.getElem?_append_left h]
theorem at_rest {done m rest : List Int} : (done ++ (m ++ rest))[done.length + m.length]? = rest[0]? := by
  rw [List.getElem?_append_right (by omega), show done.length + m.length - done.length = m.length by omega, List.getElem?_append_right (Nat.le_refl _), Nat.sub_self]
theorem tok_step (V : Env ch esc rows l) {s : Bool} {last : Int} {t : LT} {r : List LT} (R : RowOk ch s last (t :: r)) {codes done rest : List Int} {st : Int} (e : codes = done ++ (wrC ch esc t ++ rest))
    (hn : ∀ x, t = .nm x → x ∈ l) (h1 : s = true → st ≠ 1) (h2 : s = false → st = 1) :
    LtIn l t ∧ ∃ s' last' body pre st', RowOk ch s' last' r ∧ wrC ch esc t = body ++ pre ∧ StepR rows codes l done.length st (.p (tokPV (t.num l))) l (done.length + body.length) st' ∧
      (s' = true → st' ≠ 1) ∧ (s' = false → st' = 1) ∧ (pre = [] ∨ (pre = [32] ∧ s' = true ∧ ∃ x, t = .nm x)) := by
  have at0 : ∀ {m : List Int} {c : Int} {m' : List Int}, codes = done ++ (m ++ rest) → m = c :: m' → codes[done.length]? = some c := fun {m c m'} q z => by
    subst z
    have := at_mid (done := done) (m := c :: m') (rest := rest) (i := 0) (by simp)
    rw [← q] at this
    exact this
  cases R with
  | @char _ _ c _ ho hc h7 R =>
    have hl : catOf ch c ≠ 0 := fun q => by rw [q] at hc; revert hc; decide
    refine ⟨hl, false, c, [c], [], 1, R, rfl, ?_, fun q => (by cases q), fun _z => rfl, .inl rfl⟩
    exact .char (at0 e rfl) (V.rows c ho.1) hc
  | @space _ _ R =>
    have hst := h2 rfl
    subst hst
    refine ⟨show (10 : Int) ≠ 0 by decide, true, 32, [32], [], 2, R, rfl, ?_, fun _z => by decide, fun q => (by cases q), .inl rfl⟩
    refine .space (at0 e rfl) ?_ rfl
    have := V.rows 32 (by decide)
    rw [V.C.sp] at this
    exact this
  | @name _ _ cs c _ h0 h2' h R =>
    have hw := wrC_name (ch := ch) (esc := esc) h0 fun x hx => (h x hx).1.1.1
    obtain ⟨hi, hnum⟩ := in_num (hn _ rfl)
    have e0 := e
    rw [hw] at e0
    have hr := V.rows esc V.O.1
    rw [V.E0] at hr
    refine ⟨hi, true, c, esc :: (cs ++ [c]), [32], 2, R, hw, ?_, fun _z => by decide, fun q => (by cases q), .inr ⟨rfl, rfl, _, rfl⟩⟩
    have W : Word codes rows (done.length + 1) (cs ++ [c]) 11 := by
      refine ⟨by simp, fun i hi => ?_, ?_, .inl ⟨rfl, fun x hx => ?_, fun d hd => ?_⟩, by simp; omega⟩
      · have := at_mid (done := done) (m := esc :: ((cs ++ [c]) ++ [32])) (rest := rest) (i := i + 1) (by simp at hi ⊢; omega)
        rw [← e0] at this
        rw [show done.length + 1 + i = done.length + (i + 1) by omega, this, List.getElem?_cons_succ, List.getElem?_append_left hi]
      · cases cs with
        | nil => exact absurd rfl h0
        | cons x r =>
          have hx := h x (by simp)
          exact ⟨x, rfl, by rw [V.rows x hx.1.1, hx.2]⟩
      · rw [V.rows x (h x hx).1.1, (h x hx).2]
      · have := at_mid (done := done) (m := esc :: ((cs ++ [c]) ++ [32])) (rest := rest) (i := (cs ++ [c]).length + 1) (by simp)
        rw [← e0] at this
        rw [show done.length + 1 + (cs ++ [c]).length = done.length + ((cs ++ [c]).length + 1) by omega, this, List.getElem?_cons_succ, List.getElem?_append_right (Nat.le_refl _), Nat.sub_self] at hd
        cases hd
        have := V.rows 32 (by decide)
        rw [V.C.sp] at this
        rw [this]; decide
    have S := StepR.word (l := l) (k := done.length) (st := st) (at0 e0 rfl) hr W V.names
    rw [hnum] at S
    have S := S
    rw [if_pos (.inl rfl)] at S
    rw [show done.length + (esc :: (cs ++ [c])).length = done.length + 1 + (cs ++ [c]).length by simp; omega]
    exact S
  | @one _ _ c _ ho R =>
    have hw := wrC_one (ch := ch) (esc := esc) ho.1.1
    obtain ⟨hi, hnum⟩ := in_num (hn _ rfl)
    have hr := V.rows esc V.O.1
    rw [V.E0] at hr
    have hrc := V.rows c ho.1
    by_cases q : catOf ch c = 11
    · rw [if_pos q] at hw
      have e0 := e
      rw [hw] at e0
      have R := R
      rw [decide_eq_true (show catOf ch c = 10 ∨ catOf ch c = 11 from .inr q)] at R
      refine ⟨hi, true, c, [esc, c], [32], 2, R, hw, ?_, fun _z => by decide, fun q => (by cases q), .inr ⟨rfl, rfl, _, rfl⟩⟩
      have W : Word codes rows (done.length + 1) [c] 11 := by
        refine ⟨by simp, fun i hi => ?_, ⟨c, rfl, by rw [hrc, q]⟩, .inl ⟨rfl, fun x hx => ?_, fun d hd => ?_⟩, by simp⟩
        · have hi0 : i = 0 := by simpa using hi
          subst hi0
          have := at_mid (done := done) (m := [esc, c, 32]) (rest := rest) (i := 1) (by simp)
          rw [← e0] at this
          exact this
        · simp at hx; subst hx; rw [hrc, q]
        · have := at_mid (done := done) (m := [esc, c, 32]) (rest := rest) (i := 2) (by simp)
          rw [← e0] at this
          have hd : codes[done.length + 2]? = some d := hd
          rw [this] at hd
          cases hd
          have := V.rows 32 (by decide)
          rw [V.C.sp] at this
          rw [this]; decide
      have S := StepR.word (l := l) (k := done.length) (st := st) (at0 e0 rfl) hr W V.names
      rw [hnum] at S
      rw [if_pos (.inl rfl)] at S
      exact S
    · rw [if_neg q] at hw
      have e0 := e
      rw [hw] at e0
      refine ⟨hi, _, c, [esc, c], [], if catOf ch c = 11 ∨ catOf ch c = 10 then 2 else 1, R, hw, ?_, fun z => ?_, fun z => ?_, .inl rfl⟩
      · have W : Word codes rows (done.length + 1) [c] (catOf ch c) := by
          refine ⟨by simp, fun i hi => ?_, ⟨c, rfl, hrc⟩, .inr ⟨q, rfl⟩, by simp⟩
          have hi0 : i = 0 := by simpa using hi
          subst hi0
          have := at_mid (done := done) (m := [esc, c]) (rest := rest) (i := 1) (by simp)
          rw [← e0] at this
          exact this
        have S := StepR.word (l := l) (k := done.length) (st := st) (at0 e0 rfl) hr W V.names
        rw [hnum] at S
        exact S
      · have z := of_decide_eq_true z
        rw [if_pos z.symm]; decide
      · have z := of_decide_eq_false z
        rw [if_neg (fun y => z y.symm)]
theorem read_row (V : Env ch esc rows l) {codes : List Int} : ∀ (row : List LT) (s : Bool) (last : Int) (pre done : List Int) (st : Int) (b : Bool), RowOk ch s last row → okEnd b row → codes = done ++ (pre ++ rowC ch esc row) →
    (∀ x, .nm x ∈ row → x ∈ l) → (s = true → st ≠ 1) → (s = false → st = 1) → (pre = [] ∨ (pre = [32] ∧ s = true ∧ b = false)) → RdL rows codes l done.length st row
  | [], s, last, pre, done, st, b, R, he, e, hn, h1, h2, hp => by
    rcases hp with rfl | ⟨-, -, rfl⟩
    · have : codes.length = done.length := by rw [e]; simp [rowC]
      rw [← this]
      exact .nil
    · cases he
  | t :: r, s, last, pre, done, st, b, R, he, e, hn, h1, h2, hp => by
    have e' : codes = (done ++ pre) ++ (wrC ch esc t ++ rowC ch esc r) := by rw [e, rowC_cons, List.append_assoc]
    obtain ⟨hi, s', last', body, pre', st', R', hw, S, g1, g2, hp'⟩ := tok_step V R e' (fun x hx => hn x (by rw [hx]; exact .head _)) h1 h2
    have e2 : codes = ((done ++ pre) ++ body) ++ (pre' ++ rowC ch esc r) := by rw [e', hw]; simp
    have ih := read_row V r s' last' pre' ((done ++ pre) ++ body) st' (match t with | .ch _ _ => true | .nm _ => false) R' (by cases t <;> exact he) e2 (fun x hx => hn x (.tail _ hx)) g1 g2 (by
      rcases hp' with q | ⟨q1, q2, x, q3⟩
      · exact .inl q
      · subst q3; exact .inr ⟨q1, q2, rfl⟩)
    refine .cons ?_ hi ih
    rw [show ((done ++ pre) ++ body).length = (done ++ pre).length + body.length by simp; omega]
    rcases hp with rfl | ⟨rfl, hs, -⟩
    · rw [List.append_nil] at S ⊢
      exact .inl S
    · have hh : (done ++ [(32 : Int)]).length = done.length + 1 := by simp
      rw [hh] at S ⊢
      refine .inr ⟨.blank (c := 32) ?_ ?_ (h1 hs), S⟩
      · have := at_mid (done := done) (m := [32]) (rest := rowC ch esc (t :: r)) (i := 0) (by simp)
        rw [← e] at this
        exact this
      · have := V.rows 32 (by decide)
        rw [V.C.sp] at this
        exact this

variable {ch : List (Int × Int)} {esc : Int} {rows : List Int} {l : List Str}
noncomputable def TW : LT → Prop
  | .ch c x => c ∈ others ∧ (0 ≤ x ∧ x ≤ 255)
  | .nm t => okName t ∧ t.length ≤ 3 ∧ PyData.strOk t = true
theorem cats_others : ∀ c ∈ cats10, c ∈ others := by decide +kernel
theorem nm_ok {cs : List Int} (h0 : cs ≠ []) (h3 : cs.length ≤ 3) (h : ∀ c ∈ cs, Oct c) : TW (.nm (strOf cs)) := by
  refine ⟨⟨?_, ?_, ?_⟩, ?_, strOk_strOf fun c hc => (h c hc).1⟩
  · intro c hc
    unfold strOf at hc
    simp only [] at hc
    obtain ⟨x, hx, rfl⟩ := List.mem_map.mp hc
    have := (h x hx).1
    omega
  · intro q
    have := congrArg Str.length q
    unfold strOf Str.length at this
    simp at this
    exact h0 (List.eq_nil_of_length_eq_zero (this.trans rfl))
  · unfold strOf Str.length; simp; omega
  · unfold strOf Str.length; simp; exact h3
theorem row_tok : ∀ {s : Bool} {last : Int} {row : List LT}, RowOk ch s last row → ∀ t ∈ row, TW t := by
  intro s last row R
  induction R with
  | nil => intro t h; cases h
  | char ho hc _ _ ih =>
    intro t ht
    rcases List.mem_cons.mp ht with rfl | ht
    · exact ⟨cats_others _ hc, ho.1⟩
    · exact ih t ht
  | space _ ih =>
    intro t ht
    rcases List.mem_cons.mp ht with rfl | ht
    · exact ⟨by decide, by decide⟩
    · exact ih t ht
  | name h0 h2 h _ ih =>
    intro t ht
    rcases List.mem_cons.mp ht with rfl | ht
    · exact nm_ok (by simp) (by simp; omega) fun c hc => (h c hc).1
    · exact ih t ht
  | one ho _ ih =>
    intro t ht
    rcases List.mem_cons.mp ht with rfl | ht
    · exact nm_ok (by simp) (by simp) fun c hc => by simp at hc; subst hc; exact ho
    · exact ih t ht
theorem TW.lt {t : LT} (h : TW t) : ltOk t := by
  cases t with
  | ch c x => exact ⟨fun q => by have := h.1; rw [q] at this; revert this; decide, h.2⟩
  | nm t => exact h.1
theorem bare_eq (V : Env ch esc rows l) {t : Str} (h : okText t) : bare rows t = bareL ch t := by
  unfold bare bareL
  unfold okText at h
  revert h
  generalize t.cps.toList = L
  intro h
  rcases L with _ | ⟨d, _ | ⟨e, r⟩⟩
  · rfl
  · have hd : d ≤ 255 := h d (.head _)
    have := V.rows d (by omega)
    rw [Int.toNat_natCast] at this
    show (rows[d]? != some 11) = !decide (catOf ch d = 11)
    rw [this]
    by_cases e : catOf ch d = 11
    · rw [e]; rfl
    · rw [decide_eq_false e]
      exact bne_iff_ne.mpr fun q => e (Option.some.inj q)
  · rfl
theorem tok_wr (V : Env ch esc rows l) {t : LT} (h : TW t) (hn : ∀ x, t = .nm x → x ∈ l) : tokStr l rows esc (t.num l) = wr ch esc t := by
  cases t with
  | ch c x =>
    have hc : c ≠ 0 := (TW.lt h).1
    show (if c = 0 then _ else ch1 x) = ch1 x
    rw [if_neg hc]
  | nm t =>
    have hi := (in_num (hn t rfl)).1
    show (if (0 : Int) = 0 then nameW rows esc ((l[(numTo t l).toNat]?).getD ⟨#[]⟩) else _) = wr ch esc (.nm t)
    rw [if_pos rfl, hi.2, wr_nm]
    show nameW rows esc t = _
    unfold nameW
    rw [bare_eq V h.1.1]
    split
    · exact (Str.append_empty _).symm
    · rfl
theorem tok_v {t : LT} (h : TW t) (hn : ∀ x, t = .nm x → x ∈ l) : tokV l (t.num l) := by
  cases t with
  | ch c x => exact .inr h
  | nm t =>
    have hi := (in_num (hn t rfl)).1
    exact .inl ⟨rfl, hi.1, t, hi.2, h.1⟩
noncomputable def LT.c : LT → Int
  | .ch c _ => c
  | .nm _ => 0
theorem num_c (t : LT) : (t.num l).1 = t.c := by cases t <;> rfl
noncomputable def dbl (ch : List (Int × Int)) (esc : Int) (t : LT) : Str := if t.c = 6 then wr ch esc t ++ wr ch esc t else wr ch esc t
theorem part_dbl (V : Env ch esc rows l) {t : LT} (h : TW t) (hn : ∀ x, t = .nm x → x ∈ l) : partS l rows esc (t.num l) = dbl ch esc t := by
  unfold partS dbl
  rw [tok_wr V h hn, num_c]
theorem Str.app_assoc (a b c : Str) : a ++ b ++ c = a ++ (b ++ c) := by
  show Str.append (Str.append a b) c = Str.append a (Str.append b c)
  simp [Str.append]
theorem cat_dbl : ∀ row : List LT, cat (row.map (dbl ch esc)) = cat ((twice row).map (wr ch esc))
  | [] => rfl
  | t :: r => by
    have ih := cat_dbl r
    show dbl ch esc t ++ cat (r.map (dbl ch esc)) = cat ((tw t ++ twice r).map (wr ch esc))
    rw [ih]
    unfold dbl
    cases t with
    | ch c x =>
      rw [tw_ch]
      show (if c = 6 then _ else _) ++ _ = _
      split
      · rw [Str.app_assoc]; rfl
      · rfl
    | nm t => rfl
theorem mul_one (x : Str) : Txt.mul x 1 = x := rfl
set_option tactic.hygienic true in
theorem mul_two (x : Str) : Txt.mul x 2 = x ++ x := by
  unfold Txt.mul
  rw [if_neg (by decide)]
  split
  · rename_i h
    have h : x.length = 0 := by
      rcases Bool.or_eq_true_iff.mp h with q | q
      · exact absurd q (by decide)
      · exact eq_of_beq q
    obtain ⟨a⟩ := x
    have h : a.size = 0 := h
    have : a = #[] := Array.eq_empty_of_size_eq_zero h
    subst this
    rfl
  · show _ = Str.append _ _
    simp [Str.append]
theorem mul_ok {x : Str} {n : Int} (h : x.length ≤ 1000) (h1 : 1 ≤ n ∧ n ≤ 2) : MulOk x n := by
  refine ⟨?_, ?_, ?_⟩
  · rw [decide_eq_false (by omega), decide_eq_false (by omega)]; rfl
  · intro _ _ q
    have : (2 ^ 63 - 1) / n ≥ 1000 := by
      rcases (show n = 1 ∨ n = 2 by omega) with rfl | rfl <;> decide
    omega
  · intro _ _
    unfold Builtin.Str.tooLong
    refine decide_eq_false (Nat.not_lt.mpr ?_)
    refine Nat.le_trans (Nat.mul_le_mul h (show n.toNat ≤ 2 by omega)) (by decide)
theorem row_plain {t : LT} (h : TW t) : t.pv.plain = true ∧ t.pv.py.canLay0 = true ∧ t.pv.py.depth ≤ 2 := by
  cases t with
  | ch c x => exact ⟨rfl, by kernel_rfl, by show PyData.depth (.tuple [.int c, .int x]) ≤ 2; simp [PyData.depth, PyData.depthAll]⟩
  | nm t =>
    have hs := h.2.2
    refine ⟨rfl, ?_, by show PyData.depth (.tuple [.int 0, .str t]) ≤ 2; simp [PyData.depth, PyData.depthAll]⟩
    have e : (LT.nm t).pv.py.canLay0 = (PyData.strOk t && true) := by kernel_rfl
    rw [e, hs]; rfl
theorem rows_plain : ∀ {row : List LT}, (∀ t ∈ row, TW t) → PV.plains (rowPV row) = true ∧ PyData.canLayAll0 (PV.pys (rowPV row)) = true ∧ PyData.depthAll (PV.pys (rowPV row)) ≤ 3
  | [], _ => ⟨rfl, by kernel_rfl, by show PyData.depthAll [] ≤ 3; simp [PyData.depthAll]⟩
  | t :: r, h => by
    obtain ⟨a1, a2, a3⟩ := row_plain (h t (.head _))
    obtain ⟨b1, b2, b3⟩ := rows_plain (row := r) fun u hu => h u (.tail _ hu)
    refine ⟨?_, ?_, ?_⟩
    · show (t.pv.plain && PV.plains (rowPV r)) = true
      rw [a1, b1]; rfl
    · show PyData.canLayAll0 (t.pv.py :: PV.pys (rowPV r)) = true
      rw [PyData.canLayAll0, a2, b2]; rfl
    · show PyData.depthAll (t.pv.py :: PV.pys (rowPV r)) ≤ 3
      rw [PyData.depthAll]
      omega
theorem rows_eqs {row : List LT} (h : ∀ t ∈ row, TW t) : eqsOk (rowPV row) = true := by
  obtain ⟨h1, h2, h3⟩ := rows_plain h
  unfold eqsOk SeqAt.shaped
  rw [h1]
  have e : PyData.canLay0 (.list (PV.pys (rowPV row))) = true := by rw [PyData.canLay0]; exact h2
  have d : PyData.depth (.list (PV.pys (rowPV row))) ≤ 64 := by rw [PyData.depth]; omega
  rw [e, decide_eq_true d]; rfl
theorem rows_refl {row : List LT} (h : ∀ t ∈ row, TW t) : PyData.eqvAll (PV.pys (rowPV row)) (PV.pys (rowPV row)) = true := SeqAt.eqvAll_refl _ (rows_plain h).2.1
noncomputable def vals8 : List Int := [11, 12, 13, 7, 6, 1, 2, 8]
theorem vals_cats : ∀ v ∈ vals8, v ∈ cats10 := by decide +kernel
theorem vals_small : ∀ v ∈ vals8, 0 ≤ v ∧ v ≤ 15 := by decide +kernel
structure ChI (ch : List (Int × Int)) : Prop where
  esc : getK 124 ch = some 0
  keys : ∀ k v, getK k ch = some v → k = 124 ∨ (k ∈ pool ∧ v ∈ vals8)
  nd : (ch.map (·.1)).Nodup
theorem getK_setK {k j v : Int} : ∀ {l : List (Int × Int)}, getK j (setK k v l) = if k = j then some v else getK j l
  | [] => by rw [setK_e1, getK_e2]
  | (y, u) :: r => by
    rw [setK_e2]
    by_cases e : y = k
    · rw [if_pos e, getK_e2, getK_e2]
      subst e
      by_cases e2 : y = j <;> simp [e2]
    · rw [if_neg e, getK_e2, getK_e2, getK_setK (l := r)]
      by_cases e2 : y = j
      · subst e2
        rw [if_pos rfl, if_pos rfl, if_neg (fun q => e q.symm)]
      · rw [if_neg e2, if_neg e2]
theorem hasK_mem {k : Int} {l : List (Int × Int)} : hasK k l = true ↔ k ∈ l.map (·.1) := by
  unfold hasK
  simp [List.any_eq_true]
set_option tactic.hygienic true in
theorem setK_keys {k v : Int} {l : List (Int × Int)} (h : (l.map (·.1)).Nodup) : ((setK k v l).map (·.1)).Nodup := by
  cases e : hasK k l with
  | false =>
    rw [setK_new e, List.map_append]
    have : k ∉ l.map (·.1) := fun q => by rw [hasK_mem.mpr q] at e; cases e
    rw [List.nodup_append]
    refine ⟨h, by simp, ?_⟩
    intro a ha b hb
    simp at hb
    subst hb
    rintro rfl
    exact this ha
  | true =>
    have : ∀ {l : List (Int × Int)}, hasK k l = true → (setK k v l).map (·.1) = l.map (·.1) := by
      intro l
      induction l with
      | nil => intro e; cases e
      | cons a r ih =>
        obtain ⟨y, u⟩ := a
        intro e
        rw [setK_e2]
        split
        · rfl
        · rename_i q
          unfold hasK at e ih
          simp [q] at e
          simp only [List.map_cons]
          rw [ih (by simpa [List.any_eq_true] using e)]
    rw [this e]; exact h
theorem setK_len {k v : Int} : ∀ {l : List (Int × Int)}, (setK k v l).length ≤ l.length + 1
  | [] => by rw [setK_e1]; simp
  | (y, u) :: r => by
    rw [setK_e2]
    split
    · simp
    · simp; exact setK_len
theorem ChI.zero : ChI [(124, 0)] := by
  refine ⟨rfl, fun k v h => ?_, by simp⟩
  by_cases e : (124 : Int) = k
  · exact .inl e.symm
  · have : getK k [((124 : Int), (0 : Int))] = none := by show (if (124 : Int) = k then _ else _) = _; rw [if_neg e]; rfl
    rw [this] at h; cases h
set_option tactic.hygienic true in
theorem ChI.set {ch : List (Int × Int)} (I : ChI ch) {k v : Int} (hk : k ∈ pool) (hv : v ∈ vals8) : ChI (setK k v ch) := by
  refine ⟨?_, ?_, setK_keys I.nd⟩
  · rw [getK_setK, if_neg (fun q => by rw [q] at hk; revert hk; decide)]; exact I.esc
  · intro j u h
    rw [getK_setK] at h
    split at h
    · rename_i e
      subst e
      cases h
      exact .inr ⟨hk, hv⟩
    · exact I.keys j u h
theorem plain_at {c : Int} (h : ∀ v, getK c ch ≠ some v) : catOf ch c = plainRow.getD c.toNat 0 := by
  unfold catOf
  cases e : getK c ch with
  | none => rfl
  | some v => exact absurd e (h v)
theorem ChI.not {ch : List (Int × Int)} (I : ChI ch) {c : Int} (h1 : c ≠ 124) (h2 : c ∉ pool) : catOf ch c = plainRow.getD c.toNat 0 := plain_at fun v q => by
  rcases I.keys c v q with q | q
  · exact h1 q
  · exact h2 q.1
theorem pool_plain : ∀ c ∈ pool, plainRow.getD c.toNat 0 ∈ cats10 := by decide +kernel
theorem ChI.ok {ch : List (Int × Int)} (I : ChI ch) : ChOk ch := by
  refine ⟨fun c hc => ?_, ?_, ?_⟩
  · cases e : getK c ch with
    | none => rw [plain_at (fun v q => by rw [e] at q; cases q)]; exact pool_plain c hc
    | some v =>
      have : catOf ch c = v := by unfold catOf; rw [e]; rfl
      rw [this]
      rcases I.keys c v e with q | q
      · rw [q] at hc; exact absurd hc (by decide)
      · exact vals_cats _ q.2
  · rw [I.not (by decide) (by decide)]; decide +kernel
  · rw [I.not (by decide) (by decide)]; decide +kernel
theorem ChI.esc0 {ch : List (Int × Int)} (I : ChI ch) {e : Int} (h : e = 92 ∨ e = 124) : catOf ch e = 0 := by
  rcases h with rfl | rfl
  · rw [I.not (by decide) (by decide)]; decide +kernel
  · unfold catOf; rw [I.esc]; rfl
theorem ChI.key {ch : List (Int × Int)} (I : ChI ch) {k : Int} (h : k ∈ ch.map (·.1)) : ∃ v, getK k ch = some v ∧ (0 ≤ k ∧ k ≤ 255) ∧ (0 ≤ v ∧ v ≤ 15) := by
  have e := hasK_mem.mpr h
  rw [hasK_getK] at e
  obtain ⟨v, hv⟩ := Option.isSome_iff_exists.mp e
  refine ⟨v, hv, ?_, ?_⟩
  · rcases I.keys k v hv with q | q
    · omega
    · exact pool_oct q.1
  · rcases I.keys k v hv with q | q
    · subst q
      rw [I.esc] at hv
      cases hv; decide
    · exact vals_small _ q.2
noncomputable def rowsOf (ch : List (Int × Int)) : List Int → List Int
  | [] => plainRow
  | c :: r => (rowsOf ch r).set c.toNat (catOf ch c)
theorem plainRow_len : plainRow.length = 256 := by decide +kernel
theorem rowsOf_len : ∀ r, (rowsOf ch r).length = 256
  | [] => plainRow_len
  | c :: r => by unfold rowsOf; rw [List.length_set]; exact rowsOf_len r
theorem rowsOf_at : ∀ (r : List Int), (∀ c ∈ r, 0 ≤ c) → ∀ c, (0 ≤ c ∧ c ≤ 255) → (rowsOf ch r)[c.toNat]? = some (if c ∈ r then catOf ch c else plainRow.getD c.toNat 0)
  | [], _, c, h => by
    have : c.toNat < plainRow.length := by rw [plainRow_len]; omega
    simp only [List.not_mem_nil, if_false]
    show plainRow[c.toNat]? = _
    rw [List.getD_eq_getElem?_getD, List.getElem?_eq_getElem this]; rfl
  | d :: r, hr, c, h => by
    have ih := rowsOf_at r (fun x hx => hr x (.tail _ hx)) c h
    have hl := rowsOf_len (ch := ch) r
    unfold rowsOf
    by_cases e : c = d
    · subst e
      rw [List.getElem?_set_self (by omega), if_pos (.head _)]
    · have hd := hr d (.head _)
      rw [List.getElem?_set_ne (by omega), ih]
      have : (c ∈ d :: r) ↔ c ∈ r := by simp [e]
      by_cases q : c ∈ r
      · rw [if_pos q, if_pos (this.mpr q)]
      · rw [if_neg q, if_neg (fun z => q (this.mp z))]
set_option tactic.hygienic true in
theorem rowsOf_all (I : ChI ch) {ns : List Int} (h : ∀ k, k ∈ ns ↔ k ∈ ch.map (·.1)) : ∀ c, (0 ≤ c ∧ c ≤ 255) → (rowsOf ch ns)[c.toNat]? = some (catOf ch c) := by
  intro c hc
  rw [rowsOf_at ns (fun k hk => by obtain ⟨v, _, q, _⟩ := I.key ((h k).mp hk); exact q.1) c hc]
  split
  · rfl
  · rename_i q
    rw [plain_at]
    intro v e
    refine q ((h c).mpr (hasK_mem.mp ?_))
    rw [hasK_getK, e]; rfl

set_option tactic.hygienic true in
theorem at_app {t : Str} : ∀ {l m : List Str} {i : Nat}, at? t l = some i → at? t (l ++ m) = some i
  | [], _, _, h => by cases h
  | x :: r, m, i, h => by
    rw [at_e] at h
    show (if x = t then some 0 else (at? t (r ++ m)).map (· + 1)) = some i
    split
    · rename_i e
      rw [if_pos e] at h; exact h
    · rename_i e
      rw [if_neg e] at h
      obtain ⟨j, hj, q⟩ := Option.map_eq_some_iff.mp h
      rw [at_app hj, ← q]; rfl
set_option tactic.hygienic true in
theorem at_new {t : Str} : ∀ {l : List Str}, at? t l = none → at? t (l ++ [t]) = some l.length
  | [], _ => by show (if t = t then some 0 else _) = _; rw [if_pos rfl]; rfl
  | x :: r, h => by
    rw [at_e] at h
    show (if x = t then some 0 else (at? t (r ++ [t])).map (· + 1)) = some (x :: r).length
    split
    · rename_i e; rw [if_pos e] at h; cases h
    · rename_i e
      rw [if_neg e] at h
      rw [at_new (Option.map_eq_none_iff.mp h)]; rfl
theorem numTo_of {t : Str} {l : List Str} {i : Nat} (h : at? t l = some i) : numTo t l = i := by unfold numTo; rw [h]; rfl
theorem numL_in {t : Str} {l : List Str} (x : Str) (h : t ∈ l) : t ∈ numL x l ∧ numTo t (numL x l) = numTo t l := by
  obtain ⟨i, hi⟩ := Option.isSome_iff_exists.mp (at_some h)
  unfold numL
  split
  · exact ⟨h, rfl⟩
  · exact ⟨List.mem_append.mpr (.inl h), by rw [numTo_of (at_app hi), numTo_of hi]⟩
theorem numL_self (t : Str) (l : List Str) : t ∈ numL t l ∧ numTo t (numL t l) = numTo t l := by
  cases e : at? t l with
  | some i =>
    have : numL t l = l := by unfold numL; rw [e]; rfl
    rw [this]
    exact ⟨List.mem_of_getElem? (at_get e), rfl⟩
  | none =>
    have q : numL t l = l ++ [t] := by unfold numL; rw [e]; rfl
    rw [q]
    refine ⟨List.mem_append.mpr (.inr (.head _)), ?_⟩
    rw [numTo_of (at_new e)]
    unfold numTo
    rw [e]; rfl
theorem numL_len (t : Str) (l : List Str) : (numL t l).length ≤ l.length + 1 := by
  unfold numL
  split <;> simp
theorem num_same {l l' : List Str} {done : List LT} (h : ∀ x, .nm x ∈ done → numTo x l' = numTo x l) : done.map (fun t => tokPV (t.num l)) = done.map (fun t => tokPV (t.num l')) := by
  refine List.map_congr_left fun t ht => ?_
  cases t with
  | ch c x => rfl
  | nm x => show tokPV (0, numTo x l) = tokPV (0, numTo x l'); rw [h x ht]
theorem cut5 (sc : List Int) : ∃ sc5 : List Int, cutL (intPV sc) none (some 5) = intPV sc5 ∧ sc5.length ≤ 63 := by
  refine ⟨cutL sc none (some 5), ?_, ?_⟩
  · unfold cutL
    rw [intPV_len]
    unfold intPV
    rw [List.map_take, List.map_drop]
  · unfold cutL
    rw [List.length_take]
    have : kms_hi (some 5) sc.length ≤ 5 := by
      show (if (5 : Int) < 0 then sc.length - (-(5 : Int)).toNat else min (5 : Int).toNat sc.length) ≤ 5
      rw [if_neg (by decide)]
      exact Nat.min_le_left _ _
    omega
theorem nameW_wr {ch : List (Int × Int)} {esc : Int} {rows : List Int} {l : List Str} (V : Env ch esc rows l) {t : Str} (h : okText t) : nameW rows esc t = wr ch esc (.nm t) := by
  rw [wr_nm]
  unfold nameW
  rw [bare_eq V h]
  split
  · exact (Str.append_empty _).symm
  · rfl
theorem strPV_map : ∀ l : List Str, strPV l = l.map PV.str
  | [] => rfl
  | x :: r => congrArg (PV.str x :: ·) (strPV_map r)
theorem wr_len {ch : List (Int × Int)} {esc : Int} {t : LT} (h : TW t) : (wr ch esc t).length ≤ 1000 := by
  cases t with
  | ch c x => show 1 ≤ 1000; omega
  | nm t =>
    have := h.2.1
    rw [wr_nm]
    split
    · rw [Str.length_append, Str.length_append]; show 1 + t.length + 0 ≤ _; omega
    · rw [Str.length_append, Str.length_append]; show 1 + t.length + 1 ≤ _; omega
theorem join_wr (ch : List (Int × Int)) (esc : Int) (row : List LT) : Txt.join (sn "") (row.map (wr ch esc)) = strOf (rowC ch esc row) := by
  rw [← cat_wr, ← join_eq]
  exact StrLaws.glued_eq_join _ _
theorem join_dbl (ch : List (Int × Int)) (esc : Int) (row : List LT) : Txt.join (sn "") (row.map (dbl ch esc)) = strOf (rowC ch esc (twice row)) := by
  rw [← cat_wr, ← cat_dbl, ← join_eq]
  exact StrLaws.glued_eq_join _ _
noncomputable def U438 : List (Str × SV) := [(sn "CatList", .raw (.ref 235)), (sn "Names", .raw (.ref 187)), (sn "_law_box", .raw (.ref 395)), (sn "range", .raw (.type "range")), (sn "_law_pool", absV (.ref 382)), (sn "_law_take", .raw (.ref 402)), (sn "sorted", .raw (.builtin "sorted")),
  (sn "_law_row", .raw (.ref 421)), (sn "show_tokens", .raw (.ref 285)), (sn "tuple", .raw (.type "tuple")), (sn "len", .raw (.builtin "len")), (sn "int", .raw (.type "int")), (sn "_law_read", .raw (.ref 433)), (sn "_law_written", .raw (.ref 428)), (sn "show_token", .raw (.ref 277))]
noncomputable def F438 : List Str := [sn "cats", sn "names", sn "changes", sn "escape", sn "row", sn "pieces"]
noncomputable def S438 : List Str := [sn "script", sn "cats", sn "names", sn "box", sn "changes", sn "lap", sn "code", sn "escape", sn "row", sn "token", sn "tokens", sn "count", sn "pieces", sn "single", sn "double", sn "twice"]
theorem f438 : facts U438 [sn "script"] F438 S438 (tl 50) := ⟨⟨by kernel_rfl, by kernel_rfl⟩, by kernel_rfl⟩
noncomputable def Γ438 : List (Nat × CT) := [(235, ct235), (187, ct187), (395, ct395), (402, ct402), (232, ct232), (421, ct421), (170, ct170), (184, ct184), (428, ct428), (277, ct277), (285, ct285), (433, ct433)]
noncomputable def LH0w (sc5 rows : List Int) (l : List Str) (a b c : Int) (ch : List (Int × Int)) : AH := [.list (intPV sc5), .ns [(sn "rows", .ref 3)], .inst 235 1, .list (intPV rows), nsN 6 7, .inst 187 4, .sdict (numsFrom 0 l), .list (strPV l), .list (boxPV a b c), .idict ch]
noncomputable def LV0 : Vars := [(sn "script", .ref 0), (sn "cats", .ref 2), (sn "names", .ref 5), (sn "box", .ref 8), (sn "changes", .ref 9)]
noncomputable def LV1 (_ _ : PV) : Vars := LV0
noncomputable def LV5 (lap code : PV) (esc : Int) : Vars := LV1 lap code ++ [(sn "escape", I esc), (sn "row", .ref 11)]
noncomputable def tokL (l : List Str) (row : List LT) : List PV := row.map fun t => tokPV (t.num l)
noncomputable def pcs (ch : List (Int × Int)) (esc : Int) (row : List LT) : List PV := strPV (row.map (wr ch esc))
noncomputable def LV9 (lap code : PV) (ch : List (Int × Int)) (esc : Int) (l : List Str) (row : List LT) : Vars := LV5 lap code esc ++ [(sn "tokens", .ref 12), (sn "count", I l.length), (sn "pieces", .ref 13), (sn "single", T' (strOf (rowC ch esc row))), (sn "double", T' (strOf (rowC ch esc (twice row))))]
noncomputable def LH5 (sc5 rows : List Int) (l : List Str) (a b c : Int) (ch : List (Int × Int)) (ns : List Int) (row : List LT) : AH := LH0w sc5 rows l a b c ch ++ [.list (intPV ns), .list (rowPV row)]
noncomputable def LH9 (sc5 rows : List Int) (l : List Str) (a b c : Int) (ch : List (Int × Int)) (esc : Int) (ns : List Int) (row : List LT) : AH := LH0w sc5 rows l a b c ch ++ [.list (intPV ns), .list (rowPV row), .list (tokL l row), .list (pcs ch esc row), .list (pcs ch esc row)]
noncomputable def cx438 : Cx := ⟨(fScope (tl 50)).names, U438, F438, Γ438⟩
noncomputable def K438 (K : Kv) : KS := fun fl _z H' => endK 0 fl H' K
structure Dr (ch : List (Int × Int)) (esc : Int) (rows : List Int) (l : List Str) (row : List LT) : Prop where
  V : Env ch esc rows l
  R : RowOk ch true 0 row
  last : ∃ r, row = r ++ [.ch 11 120]
  len : row.length ≤ 33
  names : ∀ x, .nm x ∈ row → x ∈ l

theorem Dr.read {ch : List (Int × Int)} {esc : Int} {rows : List Int} {l : List Str} {row r : List LT} (D : Dr ch esc rows l row) (h : r = row ∨ r = twice row) : ∃ t0 ts k1 st1, r = t0 :: ts ∧ Good (rowC ch esc r) rows ∧ (rowC ch esc r).length ≤ 1000 ∧
    (∃ x, (rowC ch esc r).getLast? = some x ∧ x ≠ 32) ∧ (∀ c ∈ rowC ch esc r, c ≠ 10) ∧ StepR rows (rowC ch esc r) l 0 0 (.p (tokPV (t0.num l))) l k1 st1 ∧ LtIn l t0 ∧ RdL rows (rowC ch esc r) l k1 st1 ts ∧ ts.length ≤ 100 := by
  have V := D.V
  have R : RowOk ch true 0 r := by
    rcases h with rfl | rfl
    · exact D.R
    · exact twice_ok D.R
  have hl : r.length ≤ 66 := by
    have := D.len
    rcases h with rfl | rfl
    · omega
    · have := twice_len row; omega
  have hn : ∀ x, .nm x ∈ r → x ∈ l := by
    rcases h with rfl | rfl
    · exact D.names
    · exact fun x hx => D.names x (twice_mem hx)
  obtain ⟨r0, hr0⟩ : ∃ r0, r = r0 ++ [.ch 11 120] := by
    obtain ⟨q, hq⟩ := D.last
    rcases h with rfl | rfl
    · exact ⟨q, hq⟩
    · exact ⟨twice q, by rw [hq, twice_app]; rfl⟩
  have hlen := len_row (esc := esc) R
  have hoct := oct_row V R
  have hlast : (rowC ch esc r).getLast? = some 120 := by rw [hr0]; exact last_row r0
  have hend : okEnd true r := by rw [hr0]; exact okEnd_x r0 true
  have G : Good (rowC ch esc r) rows := ⟨V.len, fun c hc => (hoct c hc).1, up_ok V _ 0 hoct (up_row V R 0 (.inl rfl)), by omega⟩
  cases r with
  | nil => simp at hr0
  | cons t ts =>
    have e' : rowC ch esc (t :: ts) = [] ++ (wrC ch esc t ++ rowC ch esc ts) := rfl
    obtain ⟨hi, s', last', body, pre', st', R', hw, S, g1, g2, hp'⟩ := tok_step V R (st := 0) e' (fun x hx => hn x (by rw [hx]; exact .head _)) (fun _z => by decide) (fun q => by cases q)
    have e2 : rowC ch esc (t :: ts) = body ++ (pre' ++ rowC ch esc ts) := by rw [e', hw]; simp
    have ih := read_row V ts s' last' pre' body st' (match t with | .ch _ _ => true | .nm _ => false) R' (by cases t <;> exact hend) e2 (fun x hx => hn x (.tail _ hx)) g1 g2 (by
      rcases hp' with q | ⟨q1, q2, x, q3⟩
      · exact .inl q
      · subst q3; exact .inr ⟨q1, q2, rfl⟩)
    have S : StepR rows (rowC ch esc (t :: ts)) l 0 0 (.p (tokPV (t.num l))) l (0 + body.length) st' := S
    rw [Nat.zero_add] at S
    exact ⟨t, ts, body.length, st', rfl, G, by omega, ⟨120, hlast, by decide⟩, fun c hc => (hoct c hc).2, S, hi, ih, by simp at hl; omega⟩
noncomputable def LV12 (lap code : PV) (ch : List (Int × Int)) (esc : Int) (l : List Str) (row : List LT) : Vars := LV9 lap code ch esc l row ++ [(sn "twice", .ref 17)]
noncomputable def LH12 (sc5 rows : List Int) (l : List Str) (a b c : Int) (ch : List (Int × Int)) (esc : Int) (ns : List Int) (row : List LT) : AH :=
  LH9 sc5 rows l a b c ch esc ns row ++ [.list (strPV (row.map (dbl ch esc))), .list [], .list (rowPV (twice row))]
noncomputable def rt12 : List Expr := match (fBody (tl 50)).drop 12 with
  | .Return (some (.BoolOp _ xs _)) _ :: _ => xs
  | _ => []
theorem law13 {sc5 rows : List Int} {l : List Str} {a b c : Int} {ch : List (Int × Int)} {esc : Int} {ns : List Int} {row : List LT} {lap code : PV} {K : Kv} (D : Dr ch esc rows l row) (h : K (.p (.bool true)) []) :
    wpS 8 cx438 S438 (LV12 lap code ch esc l row) ((fBody (tl 50)).drop 12) (LH12 sc5 rows l a b c ch esc ns row) (K438 K) := by
  obtain ⟨t0, ts, k1, st1, e1, G1, b1, c1, d1, S1, i1, R1, f1⟩ := D.read (.inl rfl)
  obtain ⟨t0', ts', k1', st1', e2, G2, b2, c2, d2, S2, i2, R2, f2⟩ := D.read (.inr rfl)
  have hln := D.V.names
  have htw := row_tok D.R
  have htw2 := row_tok (twice_ok D.R)
  have r1 := rows_refl htw
  have r2 := rows_refl htw2
  have q1 := rows_eqs htw
  have q2 := rows_eqs htw2
  (show ?g339; have q_ : type_of% (px (G := ?g339) (by (conv => rhs; whnf); (repeat ((first | (apply sgA; with_reducible assumption) | (apply sgT; kernel_rfl) | apply sgP); (conv => rhs; whnf))); exact sgI)) := trivial; refine segM q_ (by kernel_rfl) ?_; clear q_; (repeat (first | with_reducible refine tt ?_ | refine And.intro (by first | with_reducible assumption | kernel_rfl | omega | (simp only [inR, List.length_cons, List.length_nil]; omega)) ?_)))
  refine ex7 (rowC ch esc row) l rows t0 ts k1 st1 ⟨by kernel_rfl, by kernel_rfl, G1, b1, c1, d1, hln, S1, i1, R1, f1, ?_⟩
  rw [← e1]
  (show ?g340; have q_ : type_of% (px (G := ?g340) (by (conv => rhs; whnf); (repeat ((first | (apply sgA; with_reducible assumption) | (apply sgT; kernel_rfl) | apply sgP); (conv => rhs; whnf))); exact sgI)) := trivial; refine segM q_ (by kernel_rfl) ?_; clear q_; (repeat (first | with_reducible refine tt ?_ | refine And.intro (by first | with_reducible assumption | kernel_rfl | omega | (simp only [inR, List.length_cons, List.length_nil]; omega)) ?_)))
  refine drecG (fun e => absurd (r1.symm.trans e) (by decide)) (fun _z => ?_)
  suffices nrm : boolK ((wpET 19).fst cx438 (LV12 lap code ch esc l row)) .And (rt12.drop 1) (LH12 sc5 rows l a b c ch esc ns row ++ [.list (rowPV row)]) (fun v H1 => seqK (wpS 7 cx438 S438) [] (K438 K) (.rt v) (LV12 lap code ch esc l row) H1) from Eq.mp (by kernel_rfl) nrm
  (show ?g341; have q_ : type_of% (px (G := ?g341) (by (conv => rhs; whnf); (repeat ((first | (apply sgA; with_reducible assumption) | (apply sgT; kernel_rfl) | apply sgP); (conv => rhs; whnf))); exact sgI)) := trivial; refine segM q_ (by kernel_rfl) ?_; clear q_; (repeat (first | with_reducible refine tt ?_ | refine And.intro (by first | with_reducible assumption | kernel_rfl | omega | (simp only [inR, List.length_cons, List.length_nil]; omega)) ?_)))
  refine ex7 (rowC ch esc (twice row)) l rows t0' ts' k1' st1' ⟨by kernel_rfl, by kernel_rfl, G2, b2, c2, d2, hln, S2, i2, R2, f2, ?_⟩
  rw [← e2]
  (show ?g342; have q_ : type_of% (px (G := ?g342) (by (conv => rhs; whnf); (repeat ((first | (apply sgA; with_reducible assumption) | (apply sgT; kernel_rfl) | apply sgP); (conv => rhs; whnf))); exact sgI)) := trivial; refine segM q_ (by kernel_rfl) ?_; clear q_; (repeat (first | with_reducible refine tt ?_ | refine And.intro (by first | with_reducible assumption | kernel_rfl | omega | (simp only [inR, List.length_cons, List.length_nil]; omega)) ?_)))
  refine drecG (fun e => absurd (r2.symm.trans e) (by decide)) (fun _z => ?_)
  suffices nrm : boolK ((wpET 19).fst cx438 (LV12 lap code ch esc l row)) .And (rt12.drop 2) (LH12 sc5 rows l a b c ch esc ns row ++ [.list (rowPV row), .list (rowPV (twice row))]) (fun v H1 => seqK (wpS 7 cx438 S438) [] (K438 K) (.rt v) (LV12 lap code ch esc l row) H1) from Eq.mp (by kernel_rfl) nrm
  (show ?g343; have q_ : type_of% (px (G := ?g343) (by (conv => rhs; whnf); (repeat ((first | (apply sgA; with_reducible assumption) | (apply sgT; kernel_rfl) | apply sgP); (conv => rhs; whnf))); exact sgI)) := trivial; refine segM q_ (by kernel_rfl) ?_; clear q_; (repeat (first | with_reducible refine tt ?_ | refine And.intro (by first | with_reducible assumption | kernel_rfl | omega | (simp only [inR, List.length_cons, List.length_nil]; omega)) ?_)))
  refine ⟨l, by kernel_rfl, by kernel_rfl, by omega, ?_⟩
  have hd : decide ((l.length : Int) = l.length) = true := decide_eq_true rfl
  rw [← hd] at h
  (show ?g344; have q_ : type_of% (px (G := ?g344) (by (conv => rhs; whnf); (repeat ((first | (apply sgA; with_reducible assumption) | (apply sgT; kernel_rfl) | apply sgP); (conv => rhs; whnf))); exact sgI)) := trivial; refine segM q_ (by kernel_rfl) ?_; clear q_; (repeat (first | with_reducible refine tt ?_ | refine And.intro (by first | with_reducible assumption | kernel_rfl | omega | (simp only [inR, List.length_cons, List.length_nil]; omega)) ?_)))
  exact Eq.mp (by kernel_rfl) h

theorem tw_flat (t : LT) : List.flatten (List.replicate (Int.toNat (1 + if decide (t.c = 6) = true then 1 else 0)) [t.pv]) = rowPV (tw t) := by
  cases t with
  | ch c x =>
    rw [tw_ch]
    by_cases e : c = 6
    · subst e; rfl
    · rw [show decide ((LT.ch c x).c = 6) = false from decide_eq_false e, if_neg e]; rfl
  | nm t => rfl
theorem law12 {sc5 rows : List Int} {l : List Str} {a b c : Int} {ch : List (Int × Int)} {esc : Int} {ns : List Int} {row : List LT} {lap code : PV} {K : Kv} (D : Dr ch esc rows l row) (h : K (.p (.bool true)) []) :
    wpS 9 cx438 S438 (LV9 lap code ch esc l row ++ [(sn "twice", .ref 16)]) ((fBody (tl 50)).drop 11) (LH9 sc5 rows l a b c ch esc ns row ++ [.list (strPV (row.map (dbl ch esc))), .list []]) (K438 K) := by
  have hrl := D.len
  (show ?g345; have q_ : type_of% (px (G := ?g345) (by (conv => rhs; whnf); (repeat ((first | (apply sgA; with_reducible assumption) | (apply sgT; kernel_rfl) | apply sgP); (conv => rhs; whnf))); exact sgI)) := trivial; refine segM q_ (by kernel_rfl) ?_; clear q_; (repeat (first | with_reducible refine tt ?_ | refine And.intro (by first | with_reducible assumption | kernel_rfl | omega | (simp only [inR, List.length_cons, List.length_nil]; omega)) ?_)))
  refine ⟨rowPV row, by kernel_rfl, ?_⟩
  refine forK_ind (fun ps vars H => ∃ rest done : List LT, ps = rowPV rest ∧ row = done ++ rest ∧ 
    ((done = [] ∧ vars = LV9 lap code ch esc l row ++ [(sn "twice", .ref 16)] ∧ H = (LH9 sc5 rows l a b c ch esc ns row).set 11 .hid ++ [.list (strPV (row.map (dbl ch esc))), .list []]) ∨
     (vars = LV12 lap code ch esc l row ∧ H = (LH9 sc5 rows l a b c ch esc ns row).set 11 .hid ++ [.list (strPV (row.map (dbl ch esc))), .list [], .list (rowPV (twice done))]))) ?_ ?_ _ _ _
    ⟨row, [], rfl, rfl, .inl ⟨rfl, by kernel_rfl, by kernel_rfl⟩⟩
  · rintro i r vars H Kt ⟨rest, done, q1, q2, q3⟩ hk
    cases rest with
    | nil => cases q1
    | cons t rest =>
    cases q1
    have hdl : done.length ≤ 33 := by have := congrArg List.length q2; simp at this; omega
    have hdt := twice_len done
    have htl : (rowPV (twice done)).length ≤ 66 := by rw [rowPV_len]; omega
    have hk := hk _ _ ⟨rest, done ++ [t], rfl, by rw [q2]; simp, .inr ⟨rfl, rfl⟩⟩
    have ek : rowPV (twice (done ++ [t])) = rowPV (twice done) ++ List.flatten (List.replicate (Int.toNat (1 + if decide (t.c = 6) = true then 1 else 0)) [t.pv]) := by
      rw [tw_flat, twice_app]
      unfold rowPV
      rw [List.map_append]
      show _ = _ ++ List.map LT.pv (tw t)
      rw [show twice [t] = tw t from List.append_nil _]
    rw [ek] at hk
    have htl2 : (tw t).length ≤ 2 := by
      have := twice_len [t]
      rw [show twice [t] = tw t from List.append_nil _] at this
      exact this
    have hne : [t.pv] ≠ [] := List.cons_ne_nil _ _
    have m0 : (0 : Int) ≤ 1 + (if decide (t.c = 6) = true then 1 else 0) := by split <;> decide
    have m1 : (1 : Int) + (if decide (t.c = 6) = true then 1 else 0) < 2 ^ 63 := by split <;> decide
    have m2 : [t.pv].length * Int.toNat (1 + (if decide (t.c = 6) = true then 1 else 0)) ≤ 2 ^ 24 := by show 1 * _ ≤ _; split <;> decide
    rcases q3 with ⟨rfl, rfl, rfl⟩ | ⟨rfl, rfl⟩
    · have m3 : ([] : List PV).length + (List.flatten (List.replicate (Int.toNat (1 + if decide (t.c = 6) = true then 1 else 0)) [t.pv])).length ≤ sizeLine := by
        rw [tw_flat, rowPV_len]; exact Nat.le_trans (show 0 + (tw t).length ≤ 100 by omega) (by decide)
      cases t with
      | ch cc x =>
        (show ?g346; have q_ : type_of% (px (G := ?g346) (by (conv => rhs; whnf); (repeat ((first | (apply sgA; with_reducible assumption) | (apply sgT; kernel_rfl) | apply sgP); (conv => rhs; whnf))); exact sgI)) := trivial; refine segM q_ (by kernel_rfl) ?_; clear q_; (repeat (first | with_reducible refine tt ?_ | refine And.intro (by first | with_reducible assumption | kernel_rfl | omega | (simp only [inR, List.length_cons, List.length_nil]; omega)) ?_)))
        refine ⟨m3, ?_⟩
        (show ?g347; have q_ : type_of% (px (G := ?g347) (by (conv => rhs; whnf); (repeat ((first | (apply sgA; with_reducible assumption) | (apply sgT; kernel_rfl) | apply sgP); (conv => rhs; whnf))); exact sgI)) := trivial; refine segM q_ (by kernel_rfl) ?_; clear q_; (repeat (first | with_reducible refine tt ?_ | refine And.intro (by first | with_reducible assumption | kernel_rfl | omega | (simp only [inR, List.length_cons, List.length_nil]; omega)) ?_)))
        exact Eq.mp (by kernel_rfl) hk
      | nm x =>
        (show ?g348; have q_ : type_of% (px (G := ?g348) (by (conv => rhs; whnf); (repeat ((first | (apply sgA; with_reducible assumption) | (apply sgT; kernel_rfl) | apply sgP); (conv => rhs; whnf))); exact sgI)) := trivial; refine segM q_ (by kernel_rfl) ?_; clear q_; (repeat (first | with_reducible refine tt ?_ | refine And.intro (by first | with_reducible assumption | kernel_rfl | omega | (simp only [inR, List.length_cons, List.length_nil]; omega)) ?_)))
        refine ⟨m3, ?_⟩
        (show ?g349; have q_ : type_of% (px (G := ?g349) (by (conv => rhs; whnf); (repeat ((first | (apply sgA; with_reducible assumption) | (apply sgT; kernel_rfl) | apply sgP); (conv => rhs; whnf))); exact sgI)) := trivial; refine segM q_ (by kernel_rfl) ?_; clear q_; (repeat (first | with_reducible refine tt ?_ | refine And.intro (by first | with_reducible assumption | kernel_rfl | omega | (simp only [inR, List.length_cons, List.length_nil]; omega)) ?_)))
        exact Eq.mp (by kernel_rfl) hk
    · have m3 : (rowPV (twice done)).length + (List.flatten (List.replicate (Int.toNat (1 + if decide (t.c = 6) = true then 1 else 0)) [t.pv])).length ≤ sizeLine := by
        rw [tw_flat, rowPV_len (tw t)]; exact Nat.le_trans (show _ ≤ 100 by omega) (by decide)
      cases t with
      | ch cc x =>
        (show ?g350; have q_ : type_of% (px (G := ?g350) (by (conv => rhs; whnf); (repeat ((first | (apply sgA; with_reducible assumption) | (apply sgT; kernel_rfl) | apply sgP); (conv => rhs; whnf))); exact sgI)) := trivial; refine segM q_ (by kernel_rfl) ?_; clear q_; (repeat (first | with_reducible refine tt ?_ | refine And.intro (by first | with_reducible assumption | kernel_rfl | omega | (simp only [inR, List.length_cons, List.length_nil]; omega)) ?_)))
        refine ⟨m3, ?_⟩
        (show ?g351; have q_ : type_of% (px (G := ?g351) (by (conv => rhs; whnf); (repeat ((first | (apply sgA; with_reducible assumption) | (apply sgT; kernel_rfl) | apply sgP); (conv => rhs; whnf))); exact sgI)) := trivial; refine segM q_ (by kernel_rfl) ?_; clear q_; (repeat (first | with_reducible refine tt ?_ | refine And.intro (by first | with_reducible assumption | kernel_rfl | omega | (simp only [inR, List.length_cons, List.length_nil]; omega)) ?_)))
        exact Eq.mp (by kernel_rfl) hk
      | nm x =>
        (show ?g352; have q_ : type_of% (px (G := ?g352) (by (conv => rhs; whnf); (repeat ((first | (apply sgA; with_reducible assumption) | (apply sgT; kernel_rfl) | apply sgP); (conv => rhs; whnf))); exact sgI)) := trivial; refine segM q_ (by kernel_rfl) ?_; clear q_; (repeat (first | with_reducible refine tt ?_ | refine And.intro (by first | with_reducible assumption | kernel_rfl | omega | (simp only [inR, List.length_cons, List.length_nil]; omega)) ?_)))
        refine ⟨m3, ?_⟩
        (show ?g353; have q_ : type_of% (px (G := ?g353) (by (conv => rhs; whnf); (repeat ((first | (apply sgA; with_reducible assumption) | (apply sgT; kernel_rfl) | apply sgP); (conv => rhs; whnf))); exact sgI)) := trivial; refine segM q_ (by kernel_rfl) ?_; clear q_; (repeat (first | with_reducible refine tt ?_ | refine And.intro (by first | with_reducible assumption | kernel_rfl | omega | (simp only [inR, List.length_cons, List.length_nil]; omega)) ?_)))
        exact Eq.mp (by kernel_rfl) hk
  · rintro vars H ⟨rest, done, q1, q2, q3⟩
    cases rest with
    | cons => cases q1
    | nil =>
    rcases q3 with ⟨rfl, -, -⟩ | ⟨rfl, rfl⟩
    · obtain ⟨r, hr⟩ := D.last
      rw [q2] at hr
      simp at hr
    rw [List.append_nil] at q2
    subst q2
    have := law13 (sc5 := sc5) (a := a) (b := b) (c := c) (ns := ns) (lap := lap) (code := code) (K := K) D h
    exact Eq.mp (by kernel_rfl) this

theorem ixL_pos {L : List PV} {k : Nat} {v : PV} (h : L[k]? = some v) : ixL (k : Int) L = some v := by
  have hlt : k < L.length := (List.getElem?_eq_some_iff.mp h).1
  unfold ixL seqIndex?
  have h1 : ¬ (k : Int) < 0 := by omega
  simp only [h1, if_false]
  rw [if_pos (by simp; omega)]
  simpa using h
theorem drop_cons {α : Type} {L : List α} {k : Nat} {i : α} {r : List α} (h : i :: r = L.drop k) : L[k]? = some i ∧ r = L.drop (k + 1) := by
  constructor
  · have := congrArg (·[0]?) h
    simp [List.getElem?_drop] at this
    exact this.symm
  · have := congrArg List.tail h
    simpa [List.tail_drop] using this
theorem range_at {n k : Nat} {i : PV} (h : (rangeL 0 n)[k]? = some i) : i = .int k := by
  unfold rangeL at h
  rw [List.getElem?_map] at h
  obtain ⟨j, hj, rfl⟩ := Option.map_eq_some_iff.mp h
  have := (List.getElem?_eq_some_iff.mp hj)
  obtain ⟨h1, h2⟩ := this
  rw [List.getElem_range] at h2
  subst h2
  show PV.int (0 + (k : Int)) = _
  rw [Int.zero_add]
theorem mul_dbl {ch : List (Int × Int)} {esc : Int} (t : LT) : Txt.mul (wr ch esc t) (1 + if decide (t.c = 6) = true then 1 else 0) = dbl ch esc t := by
  unfold dbl
  by_cases e : t.c = 6
  · rw [decide_eq_true e, if_pos rfl, if_pos e]; exact mul_two _
  · rw [decide_eq_false e, if_neg e]; exact mul_one _
theorem law10 {sc5 rows : List Int} {l : List Str} {a b c : Int} {ch : List (Int × Int)} {esc : Int} {ns : List Int} {row : List LT} {lap code : PV} {K : Kv} (D : Dr ch esc rows l row) (h : K (.p (.bool true)) []) :
    wpS 11 cx438 S438 (LV9 lap code ch esc l row) ((fBody (tl 50)).drop 9) (LH9 sc5 rows l a b c ch esc ns row) (K438 K) := by
  have hrl := D.len
  have htw := row_tok D.R
  have hj1 : JoinOk (sn "") (row.map (wr ch esc)) = true := join_ok _ (by rw [List.length_map]; omega) fun x hx => by
    obtain ⟨t, ht, rfl⟩ := List.mem_map.mp hx
    have := wr_len (ch := ch) (esc := esc) (htw t ht); omega
  have hj2 : JoinOk (sn "") (row.map (dbl ch esc)) = true := join_ok _ (by rw [List.length_map]; omega) fun x hx => by
    obtain ⟨t, ht, rfl⟩ := List.mem_map.mp hx
    have := wr_len (ch := ch) (esc := esc) (htw t ht)
    unfold dbl
    split
    · rw [Str.length_append]; omega
    · omega
  have s1 : (!decide (strOf (rowC ch esc row) = Txt.join (sn "") (row.map (wr ch esc)))) = false := by rw [decide_eq_true (join_wr ch esc row).symm]; rfl
  have s2 : (!decide (strOf (rowC ch esc (twice row)) = Txt.join (sn "") (row.map (dbl ch esc)))) = false := by rw [decide_eq_true (join_dbl ch esc row).symm]; rfl
  have hlr := rowPV_len row
  (show ?g354; have q_ : type_of% (px (G := ?g354) (by (conv => rhs; whnf); (repeat ((first | (apply sgA; with_reducible assumption) | (apply sgT; kernel_rfl) | apply sgP); (conv => rhs; whnf))); exact sgI)) := trivial; refine segM q_ (by kernel_rfl) ?_; clear q_; (repeat (first | with_reducible refine tt ?_ | refine And.intro (by first | with_reducible assumption | kernel_rfl | omega | (simp only [inR, List.length_cons, List.length_nil]; omega)) ?_)))
  rw [show strsOf (pcs ch esc row) = _ from strsOf_strPV _]
  (show ?g355; have q_ : type_of% (px (G := ?g355) (by (conv => rhs; whnf); (repeat ((first | (apply sgA; with_reducible assumption) | (apply sgT; kernel_rfl) | apply sgP); (conv => rhs; whnf))); exact sgI)) := trivial; refine segM q_ (by kernel_rfl) ?_; clear q_; (repeat (first | with_reducible refine tt ?_ | refine And.intro (by first | with_reducible assumption | kernel_rfl | omega | (simp only [inR, List.length_cons, List.length_nil]; omega)) ?_)))
  refine drecG (fun e => absurd (s1.symm.trans e) (by decide)) (fun _z => ?_)
  (show ?g356; have q_ : type_of% (px (G := ?g356) (by (conv => rhs; whnf); (repeat ((first | (apply sgA; with_reducible assumption) | (apply sgT; kernel_rfl) | apply sgP); (conv => rhs; whnf))); exact sgI)) := trivial; refine segM q_ (by kernel_rfl) ?_; clear q_; (repeat (first | with_reducible refine tt ?_ | refine And.intro (by first | with_reducible assumption | kernel_rfl | omega | (simp only [inR, List.length_cons, List.length_nil]; omega)) ?_)))
  refine ⟨rangeL 0 row.length, by rw [hlr]; exact if_pos (by omega), ?_⟩
  refine compK_ind (fun l' acc H => ∃ rest done : List LT, row = done ++ rest ∧ l' = (rangeL 0 row.length).drop done.length ∧ acc = strPV (done.map (dbl ch esc)) ∧ H = LH9 sc5 rows l a b c ch esc ns row) ?_ ?_ _ _ _ ⟨row, [], rfl, rfl, rfl, by kernel_rfl⟩
  · rintro i r acc H Kt ⟨rest, done, q1, q2, rfl, rfl⟩ hk
    obtain ⟨q3, rfl⟩ := drop_cons q2
    have qi := range_at q3
    subst qi
    cases rest with
    | nil =>
      have := (List.getElem?_eq_some_iff.mp q3).1
      unfold rangeL at this
      rw [q1] at this
      simp at this
    | cons t rest =>
    have ht := htw t (by rw [q1]; simp)
    have hdl : done.length ≤ 33 := by have := congrArg List.length q1; simp at this; omega
    have hsz : (strPV (done.map (dbl ch esc))).length ≤ 2 ^ 20 := by rw [strPV_len, List.length_map]; omega
    have hk := hk _ _ ⟨rest, done ++ [t], by rw [q1]; simp, by rw [List.length_append]; rfl, rfl, rfl⟩
    rw [List.map_append, List.map_cons, List.map_nil, ← strPV_app, ← mul_dbl t] at hk
    have gt : row[done.length]? = some t := by rw [q1]; simp
    have g1 : ixL (done.length : Int) (pcs ch esc row) = some (.str (wr ch esc t)) := ixL_pos (by
      unfold pcs
      exact strPV_get (by rw [List.getElem?_map, gt]; rfl))
    have g2 : ixL (done.length : Int) (rowPV row) = some t.pv := ixL_pos (by unfold rowPV; rw [List.getElem?_map, gt]; rfl)
    have hm : MulOk (wr ch esc t) (1 + if decide (t.c = 6) = true then 1 else 0) := mul_ok (wr_len ht) (by split <;> omega)
    have hr : inR (done.length : Int) := ⟨by omega, by omega⟩
    (show ?g357; have q_ : type_of% (px (G := ?g357) (by (conv => rhs; whnf); (repeat ((first | (apply sgA; with_reducible assumption) | (apply sgT; kernel_rfl) | apply sgP); (conv => rhs; whnf))); exact sgI)) := trivial; refine segM q_ (by kernel_rfl) ?_; clear q_; (repeat (first | with_reducible refine tt ?_ | refine And.intro (by first | with_reducible assumption | kernel_rfl | omega | (simp only [inR, List.length_cons, List.length_nil]; omega)) ?_)))
    rw [g1]
    (show ?g358; have q_ : type_of% (px (G := ?g358) (by (conv => rhs; whnf); (repeat ((first | (apply sgA; with_reducible assumption) | (apply sgT; kernel_rfl) | apply sgP); (conv => rhs; whnf))); exact sgI)) := trivial; refine segM q_ (by kernel_rfl) ?_; clear q_; (repeat (first | with_reducible refine tt ?_ | refine And.intro (by first | with_reducible assumption | kernel_rfl | omega | (simp only [inR, List.length_cons, List.length_nil]; omega)) ?_)))
    rw [g2]
    (show ?g359; have q_ : type_of% (px (G := ?g359) (by (conv => rhs; whnf); (repeat ((first | (apply sgA; with_reducible assumption) | (apply sgT; kernel_rfl) | apply sgP); (conv => rhs; whnf))); exact sgI)) := trivial; refine segM q_ (by kernel_rfl) ?_; clear q_; (repeat (first | with_reducible refine tt ?_ | refine And.intro (by first | with_reducible assumption | kernel_rfl | omega | (simp only [inR, List.length_cons, List.length_nil]; omega)) ?_)))
    cases t with
    | ch cc x =>
      (show ?g360; have q_ : type_of% (px (G := ?g360) (by (conv => rhs; whnf); (repeat ((first | (apply sgA; with_reducible assumption) | (apply sgT; kernel_rfl) | apply sgP); (conv => rhs; whnf))); exact sgI)) := trivial; refine segM q_ (by kernel_rfl) ?_; clear q_; (repeat (first | with_reducible refine tt ?_ | refine And.intro (by first | with_reducible assumption | kernel_rfl | omega | (simp only [inR, List.length_cons, List.length_nil]; omega)) ?_)))
      refine ⟨hm, ?_⟩
      (show ?g361; have q_ : type_of% (px (G := ?g361) (by (conv => rhs; whnf); (repeat ((first | (apply sgA; with_reducible assumption) | (apply sgT; kernel_rfl) | apply sgP); (conv => rhs; whnf))); exact sgI)) := trivial; refine segM q_ (by kernel_rfl) ?_; clear q_; (repeat (first | with_reducible refine tt ?_ | refine And.intro (by first | with_reducible assumption | kernel_rfl | omega | (simp only [inR, List.length_cons, List.length_nil]; omega)) ?_)))
      exact Eq.mp (by kernel_rfl) hk
    | nm x =>
      (show ?g362; have q_ : type_of% (px (G := ?g362) (by (conv => rhs; whnf); (repeat ((first | (apply sgA; with_reducible assumption) | (apply sgT; kernel_rfl) | apply sgP); (conv => rhs; whnf))); exact sgI)) := trivial; refine segM q_ (by kernel_rfl) ?_; clear q_; (repeat (first | with_reducible refine tt ?_ | refine And.intro (by first | with_reducible assumption | kernel_rfl | omega | (simp only [inR, List.length_cons, List.length_nil]; omega)) ?_)))
      refine ⟨hm, ?_⟩
      (show ?g363; have q_ : type_of% (px (G := ?g363) (by (conv => rhs; whnf); (repeat ((first | (apply sgA; with_reducible assumption) | (apply sgT; kernel_rfl) | apply sgP); (conv => rhs; whnf))); exact sgI)) := trivial; refine segM q_ (by kernel_rfl) ?_; clear q_; (repeat (first | with_reducible refine tt ?_ | refine And.intro (by first | with_reducible assumption | kernel_rfl | omega | (simp only [inR, List.length_cons, List.length_nil]; omega)) ?_)))
      exact Eq.mp (by kernel_rfl) hk
  · rintro acc H ⟨rest, done, q1, q2, rfl, rfl⟩
    cases rest with
    | cons t rest =>
      have := congrArg List.length q2
      unfold rangeL at this
      rw [q1] at this
      simp at this
      omega
    | nil =>
    rw [List.append_nil] at q1
    subst q1
    (show ?g364; have q_ : type_of% (px (G := ?g364) (by (conv => rhs; whnf); (repeat ((first | (apply sgA; with_reducible assumption) | (apply sgT; kernel_rfl) | apply sgP); (conv => rhs; whnf))); exact sgI)) := trivial; refine segM q_ (by kernel_rfl) ?_; clear q_; (repeat (first | with_reducible refine tt ?_ | refine And.intro (by first | with_reducible assumption | kernel_rfl | omega | (simp only [inR, List.length_cons, List.length_nil]; omega)) ?_)))
    rw [strsOf_strPV]
    (show ?g365; have q_ : type_of% (px (G := ?g365) (by (conv => rhs; whnf); (repeat ((first | (apply sgA; with_reducible assumption) | (apply sgT; kernel_rfl) | apply sgP); (conv => rhs; whnf))); exact sgI)) := trivial; refine segM q_ (by kernel_rfl) ?_; clear q_; (repeat (first | with_reducible refine tt ?_ | refine And.intro (by first | with_reducible assumption | kernel_rfl | omega | (simp only [inR, List.length_cons, List.length_nil]; omega)) ?_)))
    refine drec (fun e => absurd (s2.symm.trans e) (by decide)) (fun _z => ?_)
    (show ?g366; have q_ : type_of% (px (G := ?g366) (by (conv => rhs; whnf); (repeat ((first | (apply sgA; with_reducible assumption) | (apply sgT; kernel_rfl) | apply sgP); (conv => rhs; whnf))); exact sgI)) := trivial; refine segM q_ (by kernel_rfl) ?_; clear q_; (repeat (first | with_reducible refine tt ?_ | refine And.intro (by first | with_reducible assumption | kernel_rfl | omega | (simp only [inR, List.length_cons, List.length_nil]; omega)) ?_)))
    have := law12 (sc5 := sc5) (a := a) (b := b) (c := c) (ns := ns) (lap := lap) (code := code) (K := K) D h
    conv at this => whnf
    exact Eq.mp (by kernel_rfl) this.2.2

noncomputable def stm (k : Nat) : Stmt := (fBody (tl 50)).getD k (.Return none ⟨0, 0, 0, 0⟩)
noncomputable def go (n k : Nat) (vars : Vars) (H : AH) (KK : KS) : Prop := stepS (wpE 20 cx438) (wpT 20 cx438) (wpS n cx438 S438) S438 vars (stm k) H KK
noncomputable def LV6 (lap code : PV) (esc : Int) : Vars := LV5 lap code esc ++ [(sn "tokens", .ref 12)]
noncomputable def LH6 (sc5 rows : List Int) (l : List Str) (a b c : Int) (ch : List (Int × Int)) (ns : List Int) (row : List LT) : AH := LH0w sc5 rows l a b c ch ++ [.list (intPV ns), .list (rowPV row), .list (tokL l row)]
noncomputable def LV7 (lap code : PV) (esc : Int) (l : List Str) : Vars := LV5 lap code esc ++ [(sn "tokens", .ref 12), (sn "count", I l.length), (sn "pieces", .ref 13)]
noncomputable def LH7 (sc5 rows : List Int) (l : List Str) (a b c : Int) (ch : List (Int × Int)) (esc : Int) (ns : List Int) (row : List LT) : AH := LH0w sc5 rows l a b c ch ++ [.list (intPV ns), .list (rowPV row), .list (tokL l row), .list (pcs ch esc row)]
noncomputable def LV8 (lap code : PV) (ch : List (Int × Int)) (esc : Int) (l : List Str) (row : List LT) : Vars := LV5 lap code esc ++ [(sn "tokens", .ref 12), (sn "count", I l.length), (sn "pieces", .ref 13), (sn "single", T' (strOf (rowC ch esc row)))]
section
variable {sc5 rows : List Int} {l : List Str} {a b c : Int} {ch : List (Int × Int)} {esc : Int} {ns : List Int} {row : List LT} {lap code : PV} {KK : KS}
theorem st5 (R : RowOk ch true 0 row) (hrl : row.length ≤ 33) (hK : ∀ l, (∀ x, .nm x ∈ row → x ∈ l) → l.length ≤ row.length → KK .nx (LV6 lap code esc) (LH6 sc5 rows l a b c ch ns row)) : go 14 5 (LV5 lap code esc) (LH5 sc5 rows [] a b c ch ns row) KK := by
  have htw := row_tok R
  (show ?g367; have q_ : type_of% (px (G := ?g367) (by (conv => rhs; whnf); (repeat ((first | (apply sgA; with_reducible assumption) | (apply sgT; kernel_rfl) | apply sgP); (conv => rhs; whnf))); exact sgI)) := trivial; refine segM q_ (by kernel_rfl) ?_; clear q_; (repeat (first | with_reducible refine tt ?_ | refine And.intro (by first | with_reducible assumption | kernel_rfl | omega | (simp only [inR, List.length_cons, List.length_nil]; omega)) ?_)))
  refine ⟨rowPV row, by kernel_rfl, ?_⟩
  refine compK_ind (fun l' acc H => ∃ (rest done : List LT) (l : List Str), l' = rowPV rest ∧ row = done ++ rest ∧ acc = done.map (fun t => tokPV (t.num l)) ∧ (∀ x, .nm x ∈ done → x ∈ l) ∧ l.length ≤ done.length ∧
    H = LH0w sc5 rows l a b c ch ++ [.list (intPV ns), .hid]) ?_ ?_ _ _ _ ⟨row, [], [], rfl, rfl, rfl, fun x hx => by simp at hx, Nat.le_refl _, by kernel_rfl⟩
  · rintro i r acc H Kt ⟨rest, done, l, q1, q2, rfl, q3, q4, rfl⟩ hk
    cases rest with
    | nil => cases q1
    | cons t rest =>
    cases q1
    have hdl : done.length ≤ 33 := by have := congrArg List.length q2; simp at this; omega
    have ht := htw t (by rw [q2]; simp)
    have hsz : (done.map fun t => tokPV (t.num l)).length ≤ 2 ^ 20 := by rw [List.length_map]; omega
    cases t with
    | ch cc x =>
      have qc : (!decide (cc = 0)) = true := by rw [decide_eq_false (show ¬ cc = 0 from (TW.lt ht).1)]; rfl
      have hk := hk _ _ ⟨rest, done ++ [.ch cc x], l, rfl, by rw [q2]; simp, rfl, fun y hy => q3 y (by simpa using hy), by simp; omega, rfl⟩
      rw [List.map_append] at hk
      (show ?g368; have q_ : type_of% (px (G := ?g368) (by (conv => rhs; whnf); (repeat ((first | (apply sgA; with_reducible assumption) | (apply sgT; kernel_rfl) | apply sgP); (conv => rhs; whnf))); exact sgI)) := trivial; refine segM q_ (by kernel_rfl) ?_; clear q_; (repeat (first | with_reducible refine tt ?_ | refine And.intro (by first | with_reducible assumption | kernel_rfl | omega | (simp only [inR, List.length_cons, List.length_nil]; omega)) ?_)))
      refine drec (fun _z => ?_) (fun e => absurd (qc.symm.trans e) (by decide))
      (show ?g369; have q_ : type_of% (px (G := ?g369) (by (conv => rhs; whnf); (repeat ((first | (apply sgA; with_reducible assumption) | (apply sgT; kernel_rfl) | apply sgP); (conv => rhs; whnf))); exact sgI)) := trivial; refine segM q_ (by kernel_rfl) ?_; clear q_; (repeat (first | with_reducible refine tt ?_ | refine And.intro (by first | with_reducible assumption | kernel_rfl | omega | (simp only [inR, List.length_cons, List.length_nil]; omega)) ?_)))
      exact Eq.mp (by kernel_rfl) hk
    | nm x =>
      have hk := hk _ _ ⟨rest, done ++ [.nm x], numL x l, rfl, by rw [q2]; simp, rfl, fun y hy => by
        rcases List.mem_append.mp hy with hy | hy
        · exact (numL_in x (q3 y hy)).1
        · simp at hy; subst hy; exact (numL_self y l).1, by have := numL_len x l; simp; omega, rfl⟩
      rw [List.map_append, ← num_same (l := l) (fun y hy => (numL_in x (q3 y hy)).2)] at hk
      have hk := hk
      rw [show [LT.nm x].map (fun t => tokPV (t.num (numL x l))) = [tokPV (0, numTo x l)] by show [tokPV (0, numTo x (numL x l))] = _; rw [(numL_self x l).2]] at hk
      (show ?g370; have q_ : type_of% (px (G := ?g370) (by (conv => rhs; whnf); (repeat ((first | (apply sgA; with_reducible assumption) | (apply sgT; kernel_rfl) | apply sgP); (conv => rhs; whnf))); exact sgI)) := trivial; refine segM q_ (by kernel_rfl) ?_; clear q_; (repeat (first | with_reducible refine tt ?_ | refine And.intro (by first | with_reducible assumption | kernel_rfl | omega | (simp only [inR, List.length_cons, List.length_nil]; omega)) ?_)))
      refine ex2 l x ⟨by kernel_rfl, by kernel_rfl, ht.1.1, by omega, ?_⟩
      (show ?g371; have q_ : type_of% (px (G := ?g371) (by (conv => rhs; whnf); (repeat ((first | (apply sgA; with_reducible assumption) | (apply sgT; kernel_rfl) | apply sgP); (conv => rhs; whnf))); exact sgI)) := trivial; refine segM q_ (by kernel_rfl) ?_; clear q_; (repeat (first | with_reducible refine tt ?_ | refine And.intro (by first | with_reducible assumption | kernel_rfl | omega | (simp only [inR, List.length_cons, List.length_nil]; omega)) ?_)))
      exact Eq.mp (by kernel_rfl) hk
  · rintro acc H ⟨rest, done, l, q1, q2, rfl, q3, q4, rfl⟩
    cases rest with
    | cons => cases q1
    | nil =>
    rw [List.append_nil] at q2
    subst q2
    have hK := hK l q3 q4
    (show ?g372; have q_ : type_of% (px (G := ?g372) (by (conv => rhs; whnf); (repeat ((first | (apply sgA; with_reducible assumption) | (apply sgT; kernel_rfl) | apply sgP); (conv => rhs; whnf))); exact sgI)) := trivial; refine segM q_ (by kernel_rfl) ?_; clear q_; (repeat (first | with_reducible refine tt ?_ | refine And.intro (by first | with_reducible assumption | kernel_rfl | omega | (simp only [inR, List.length_cons, List.length_nil]; omega)) ?_)))
    exact Eq.mp (by kernel_rfl) hK
theorem st6 (D : Dr ch esc rows l row) (hK : KK .nx (LV7 lap code esc l) (LH7 sc5 rows l a b c ch esc ns row)) : go 13 6 (LV6 lap code esc) (LH6 sc5 rows l a b c ch ns row) KK := by
  have hrl := D.len
  have htw := row_tok D.R
  have hes := D.V.O.1
  have hln := D.V.names
  (show ?g373; have q_ : type_of% (px (G := ?g373) (by (conv => rhs; whnf); (repeat ((first | (apply sgA; with_reducible assumption) | (apply sgT; kernel_rfl) | apply sgP); (conv => rhs; whnf))); exact sgI)) := trivial; refine segM q_ (by kernel_rfl) ?_; clear q_; (repeat (first | with_reducible refine tt ?_ | refine And.intro (by first | with_reducible assumption | kernel_rfl | omega | (simp only [inR, List.length_cons, List.length_nil]; omega)) ?_)))
  refine ⟨l, by kernel_rfl, by kernel_rfl, by omega, ?_⟩
  (show ?g374; have q_ : type_of% (px (G := ?g374) (by (conv => rhs; whnf); (repeat ((first | (apply sgA; with_reducible assumption) | (apply sgT; kernel_rfl) | apply sgP); (conv => rhs; whnf))); exact sgI)) := trivial; refine segM q_ (by kernel_rfl) ?_; clear q_; (repeat (first | with_reducible refine tt ?_ | refine And.intro (by first | with_reducible assumption | kernel_rfl | omega | (simp only [inR, List.length_cons, List.length_nil]; omega)) ?_)))
  refine ⟨rowPV row, by kernel_rfl, ?_⟩
  refine compK_ind (fun l' acc H => ∃ (rest done : List LT), l' = rowPV rest ∧ row = done ++ rest ∧ acc = strPV (done.map (wr ch esc)) ∧ H = LH0w sc5 rows l a b c ch ++ [.list (intPV ns), .hid, .list (tokL l row)]) ?_ ?_ _ _ _ ⟨row, [], rfl, rfl, rfl, by kernel_rfl⟩
  · rintro i r acc H Kt ⟨rest, done, q1, q2, rfl, rfl⟩ hk
    cases rest with
    | nil => cases q1
    | cons t rest =>
    cases q1
    have hdl : done.length ≤ 33 := by have := congrArg List.length q2; simp at this; omega
    have ht := htw t (by rw [q2]; simp)
    have hsz : (strPV (done.map (wr ch esc))).length ≤ 2 ^ 20 := by rw [strPV_len, List.length_map]; omega
    have hk := hk _ _ ⟨rest, done ++ [t], rfl, by rw [q2]; simp, rfl, rfl⟩
    rw [List.map_append, List.map_cons, List.map_nil, ← strPV_app] at hk
    (show ?g375; have q_ : type_of% (px (G := ?g375) (by (conv => rhs; whnf); (repeat ((first | (apply sgA; with_reducible assumption) | (apply sgT; kernel_rfl) | apply sgP); (conv => rhs; whnf))); exact sgI)) := trivial; refine segM q_ (by kernel_rfl) ?_; clear q_; (repeat (first | with_reducible refine tt ?_ | refine And.intro (by first | with_reducible assumption | kernel_rfl | omega | (simp only [inR, List.length_cons, List.length_nil]; omega)) ?_)))
    refine ex3 ch esc t ⟨by kernel_rfl, by kernel_rfl, hes, ht.lt, ?_⟩
    (show ?g376; have q_ : type_of% (px (G := ?g376) (by (conv => rhs; whnf); (repeat ((first | (apply sgA; with_reducible assumption) | (apply sgT; kernel_rfl) | apply sgP); (conv => rhs; whnf))); exact sgI)) := trivial; refine segM q_ (by kernel_rfl) ?_; clear q_; (repeat (first | with_reducible refine tt ?_ | refine And.intro (by first | with_reducible assumption | kernel_rfl | omega | (simp only [inR, List.length_cons, List.length_nil]; omega)) ?_)))
    exact Eq.mp (by kernel_rfl) hk
  · rintro acc H ⟨rest, done, q1, q2, rfl, rfl⟩
    cases rest with
    | cons => cases q1
    | nil =>
    rw [List.append_nil] at q2
    subst q2
    (show ?g377; have q_ : type_of% (px (G := ?g377) (by (conv => rhs; whnf); (repeat ((first | (apply sgA; with_reducible assumption) | (apply sgT; kernel_rfl) | apply sgP); (conv => rhs; whnf))); exact sgI)) := trivial; refine segM q_ (by kernel_rfl) ?_; clear q_; (repeat (first | with_reducible refine tt ?_ | refine And.intro (by first | with_reducible assumption | kernel_rfl | omega | (simp only [inR, List.length_cons, List.length_nil]; omega)) ?_)))
    exact Eq.mp (by kernel_rfl) hK
theorem st7 (D : Dr ch esc rows l row) (hK : KK .nx (LV8 lap code ch esc l row) (LH9 sc5 rows l a b c ch esc ns row)) : go 12 7 (LV7 lap code esc l) (LH7 sc5 rows l a b c ch esc ns row) KK := by
  have hrl := D.len
  have htw := row_tok D.R
  have hes := D.V.O.1
  have hln := D.V.names
  have hln2 : l.length < 1000 := by omega
  have hlr := D.V.len
  have hj1 : JoinOk (sn "") (row.map (wr ch esc)) = true := join_ok _ (by rw [List.length_map]; omega) fun x hx => by
    obtain ⟨t, ht, rfl⟩ := List.mem_map.mp hx
    have := wr_len (ch := ch) (esc := esc) (htw t ht); omega
  unfold LV8 at hK
  rw [← join_wr] at hK
  (show ?g378; have q_ : type_of% (px (G := ?g378) (by (conv => rhs; whnf); (repeat ((first | (apply sgA; with_reducible assumption) | (apply sgT; kernel_rfl) | apply sgP); (conv => rhs; whnf))); exact sgI)) := trivial; refine segM q_ (by kernel_rfl) ?_; clear q_; (repeat (first | with_reducible refine tt ?_ | refine And.intro (by first | with_reducible assumption | kernel_rfl | omega | (simp only [inR, List.length_cons, List.length_nil]; omega)) ?_)))
  refine ⟨tokL l row, by kernel_rfl, ?_⟩
  refine compK_ind (fun l' acc H => ∃ (rest done : List LT), l' = tokL l rest ∧ row = done ++ rest ∧ acc = strPV (done.map (wr ch esc)) ∧ H = LH0w sc5 rows l a b c ch ++ [.list (intPV ns), .list (rowPV row), .hid, .list (pcs ch esc row)]) ?_ ?_ _ _ _ ⟨row, [], rfl, rfl, rfl, by kernel_rfl⟩
  · rintro i r acc H Kt ⟨rest, done, q1, q2, rfl, rfl⟩ hk
    cases rest with
    | nil => cases q1
    | cons t rest =>
    cases q1
    have hdl : done.length ≤ 33 := by have := congrArg List.length q2; simp at this; omega
    have htm : t ∈ row := by rw [q2]; simp
    have ht := htw t htm
    have hsz : (strPV (done.map (wr ch esc))).length ≤ 2 ^ 20 := by rw [strPV_len, List.length_map]; omega
    have hk := hk _ _ ⟨rest, done ++ [t], rfl, by rw [q2]; simp, rfl, rfl⟩
    rw [List.map_append, List.map_cons, List.map_nil, ← strPV_app] at hk
    cases t with
    | ch cc x =>
      (show ?g379; have q_ : type_of% (px (G := ?g379) (by (conv => rhs; whnf); (repeat ((first | (apply sgA; with_reducible assumption) | (apply sgT; kernel_rfl) | apply sgP); (conv => rhs; whnf))); exact sgI)) := trivial; refine segM q_ (by kernel_rfl) ?_; clear q_; (repeat (first | with_reducible refine tt ?_ | refine And.intro (by first | with_reducible assumption | kernel_rfl | omega | (simp only [inR, List.length_cons, List.length_nil]; omega)) ?_)))
      refine ex5 l rows cc x esc ⟨by kernel_rfl, by kernel_rfl, hes, hln2, hlr, .inr ⟨ht.1, ht.2, ?_⟩⟩
      (show ?g380; have q_ : type_of% (px (G := ?g380) (by (conv => rhs; whnf); (repeat ((first | (apply sgA; with_reducible assumption) | (apply sgT; kernel_rfl) | apply sgP); (conv => rhs; whnf))); exact sgI)) := trivial; refine segM q_ (by kernel_rfl) ?_; clear q_; (repeat (first | with_reducible refine tt ?_ | refine And.intro (by first | with_reducible assumption | kernel_rfl | omega | (simp only [inR, List.length_cons, List.length_nil]; omega)) ?_)))
      exact Eq.mp (by kernel_rfl) hk
    | nm x =>
      have hi := (in_num (D.names x htm)).1
      rw [← nameW_wr D.V ht.1.1] at hk
      (show ?g381; have q_ : type_of% (px (G := ?g381) (by (conv => rhs; whnf); (repeat ((first | (apply sgA; with_reducible assumption) | (apply sgT; kernel_rfl) | apply sgP); (conv => rhs; whnf))); exact sgI)) := trivial; refine segM q_ (by kernel_rfl) ?_; clear q_; (repeat (first | with_reducible refine tt ?_ | refine And.intro (by first | with_reducible assumption | kernel_rfl | omega | (simp only [inR, List.length_cons, List.length_nil]; omega)) ?_)))
      refine ex5 l rows 0 (numTo x l) esc ⟨by kernel_rfl, by kernel_rfl, hes, hln2, hlr, .inl ⟨rfl, hi.1, x, hi.2, ht.1, ?_⟩⟩
      (show ?g382; have q_ : type_of% (px (G := ?g382) (by (conv => rhs; whnf); (repeat ((first | (apply sgA; with_reducible assumption) | (apply sgT; kernel_rfl) | apply sgP); (conv => rhs; whnf))); exact sgI)) := trivial; refine segM q_ (by kernel_rfl) ?_; clear q_; (repeat (first | with_reducible refine tt ?_ | refine And.intro (by first | with_reducible assumption | kernel_rfl | omega | (simp only [inR, List.length_cons, List.length_nil]; omega)) ?_)))
      exact Eq.mp (by kernel_rfl) hk
  · rintro acc H ⟨rest, done, q1, q2, rfl, rfl⟩
    cases rest with
    | cons => cases q1
    | nil =>
    rw [List.append_nil] at q2
    subst q2
    (show ?g383; have q_ : type_of% (px (G := ?g383) (by (conv => rhs; whnf); (repeat ((first | (apply sgA; with_reducible assumption) | (apply sgT; kernel_rfl) | apply sgP); (conv => rhs; whnf))); exact sgI)) := trivial; refine segM q_ (by kernel_rfl) ?_; clear q_; (repeat (first | with_reducible refine tt ?_ | refine And.intro (by first | with_reducible assumption | kernel_rfl | omega | (simp only [inR, List.length_cons, List.length_nil]; omega)) ?_)))
    rw [strsOf_strPV]
    (show ?g384; have q_ : type_of% (px (G := ?g384) (by (conv => rhs; whnf); (repeat ((first | (apply sgA; with_reducible assumption) | (apply sgT; kernel_rfl) | apply sgP); (conv => rhs; whnf))); exact sgI)) := trivial; refine segM q_ (by kernel_rfl) ?_; clear q_; (repeat (first | with_reducible refine tt ?_ | refine And.intro (by first | with_reducible assumption | kernel_rfl | omega | (simp only [inR, List.length_cons, List.length_nil]; omega)) ?_)))
    exact Eq.mp (by kernel_rfl) hK
theorem st8 (D : Dr ch esc rows l row) (hK : KK .nx (LV9 lap code ch esc l row) (LH9 sc5 rows l a b c ch esc ns row)) : go 11 8 (LV8 lap code ch esc l row) (LH9 sc5 rows l a b c ch esc ns row) KK := by
  have hrl := D.len
  have htw := row_tok D.R
  have hes := D.V.O.1
  have hln := D.V.names
  have hln2 : l.length < 1000 := by omega
  have hlr := D.V.len
  have hz : (tokL l row).length ≤ sizeLine := by unfold tokL; rw [List.length_map]; exact Nat.le_trans hrl (by decide)
  have hmap : (row.map (LT.num l)).map tokPV = tokL l row := by unfold tokL; rw [List.map_map]; rfl
  have hcat : cat ((row.map (LT.num l)).map (partS l rows esc)) = strOf (rowC ch esc (twice row)) := by
    rw [← cat_wr, ← cat_dbl, List.map_map]
    congr 1
    exact List.map_congr_left fun t ht => part_dbl D.V (htw t ht) fun x hx => D.names x (by rw [← hx]; exact ht)
  (show ?g385; have q_ : type_of% (px (G := ?g385) (by (conv => rhs; whnf); (repeat ((first | (apply sgA; with_reducible assumption) | (apply sgT; kernel_rfl) | apply sgP); (conv => rhs; whnf))); exact sgI)) := trivial; refine segM q_ (by kernel_rfl) ?_; clear q_; (repeat (first | with_reducible refine tt ?_ | refine And.intro (by first | with_reducible assumption | kernel_rfl | omega | (simp only [inR, List.length_cons, List.length_nil]; omega)) ?_)))
  refine ⟨l, rows, row.map (LT.num l), esc, by rw [hmap]; kernel_rfl, by kernel_rfl, hes, hln2, hlr, by rw [List.length_map]; omega, ?_, ?_⟩
  · intro u hu
    obtain ⟨t, ht, rfl⟩ := List.mem_map.mp hu
    exact tok_v (htw t ht) fun x hx => D.names x (by rw [← hx]; exact ht)
  rw [hcat]
  (show ?g386; have q_ : type_of% (px (G := ?g386) (by (conv => rhs; whnf); (repeat ((first | (apply sgA; with_reducible assumption) | (apply sgT; kernel_rfl) | apply sgP); (conv => rhs; whnf))); exact sgI)) := trivial; refine segM q_ (by kernel_rfl) ?_; clear q_; (repeat (first | with_reducible refine tt ?_ | refine And.intro (by first | with_reducible assumption | kernel_rfl | omega | (simp only [inR, List.length_cons, List.length_nil]; omega)) ?_)))
  exact Eq.mp (by kernel_rfl) hK
end

noncomputable def LVb : Vars := [(sn "script", .ref 0), (sn "cats", .ref 2), (sn "names", .ref 5)]
noncomputable def LHb (sc5 : List Int) : AH := [.list (intPV sc5), .ns [(sn "rows", .ref 3)], .inst 235 1, .list (intPV plainRow), nsN 6 7, .inst 187 4, .sdict [], .list []]
section
variable {sc5 rows : List Int} {a b c : Int} {ch : List (Int × Int)} {esc : Int} {ns : List Int} {row : List LT} {lap code : PV} {KK : KS}
theorem st1 (hl5 : sc5.length ≤ 63) (hK : ∀ a c : Int, 0 ≤ a → (0 ≤ c ∧ c < 1000003) → KK .nx LV0 (LH0w sc5 plainRow [] a 0 c [(124, 0)])) : go 18 1 LVb (LHb sc5) KK := by
  (show ?g387; have q_ : type_of% (px (G := ?g387) (by (conv => rhs; whnf); (repeat ((first | (apply sgA; with_reducible assumption) | (apply sgT; kernel_rfl) | apply sgP); (conv => rhs; whnf))); exact sgI)) := trivial; refine segM q_ (by kernel_rfl) ?_; clear q_; (repeat (first | with_reducible refine tt ?_ | refine And.intro (by first | with_reducible assumption | kernel_rfl | omega | (simp only [inR, List.length_cons, List.length_nil]; omega)) ?_)))
  refine ex2 sc5 0 ⟨by kernel_rfl, by kernel_rfl, by omega, by omega, fun a c ha hc => ?_⟩
  have hK := hK a c ha hc
  (show ?g388; have q_ : type_of% (px (G := ?g388) (by (conv => rhs; whnf); (repeat ((first | (apply sgA; with_reducible assumption) | (apply sgT; kernel_rfl) | apply sgP); (conv => rhs; whnf))); exact sgI)) := trivial; refine segM q_ (by kernel_rfl) ?_; clear q_; (repeat (first | with_reducible refine tt ?_ | refine And.intro (by first | with_reducible assumption | kernel_rfl | omega | (simp only [inR, List.length_cons, List.length_nil]; omega)) ?_)))
  exact Eq.mp (by kernel_rfl) hK
theorem st2 (ha : 0 ≤ a) (hc : 0 ≤ c ∧ c < 1000003) (hK : ∀ lap code ch a b, ChI ch → ch.length ≤ 5 → 0 ≤ a → 0 ≤ b → b ≤ 8 → KK .nx (LV1 lap code) (LH0w sc5 plainRow [] a b c ch)) : go 17 2 LV0 (LH0w sc5 plainRow [] a 0 c [(124, 0)]) KK := by
  (show ?g389; have q_ : type_of% (px (G := ?g389) (by (conv => rhs; whnf); (repeat ((first | (apply sgA; with_reducible assumption) | (apply sgT; kernel_rfl) | apply sgP); (conv => rhs; whnf))); exact sgI)) := trivial; refine segM q_ (by kernel_rfl) ?_; clear q_; (repeat (first | with_reducible refine tt ?_ | refine And.intro (by first | with_reducible assumption | kernel_rfl | omega | (simp only [inR, List.length_cons, List.length_nil]; omega)) ?_)))
  refine ⟨rangeL 0 4, by kernel_rfl, ?_⟩
  refine forK_ind (fun ps vars H => ∃ (n : Nat) (ch : List (Int × Int)) (a b : Int), ps.length + n = 4 ∧ ChI ch ∧ ch.length ≤ 1 + n ∧ 0 ≤ a ∧ 0 ≤ b ∧ b ≤ 2 * n ∧ H = LH0w sc5 plainRow [] a b c ch ∧ vars = LV0) ?_ ?_ _ _ _
    ⟨0, [(124, 0)], a, 0, rfl, .zero, by decide, ha, by omega, by omega, by kernel_rfl, by kernel_rfl⟩
  · rintro i r vars H Kt ⟨n, ch, a, b, hn, I, hch, ha, hb, hb', rfl, rfl⟩ hk
    have hn : r.length + (n + 1) = 4 := by simp at hn; omega
    have hk := fun k v a' b' (h1 : k ∈ pool) (h2 : v ∈ vals8) (h3 : 0 ≤ a') (h4 : 0 ≤ b') (h5 : b' ≤ b + 2) => hk _ _ ⟨n + 1, setK k v ch, a', b', hn, I.set h1 h2, by have := @setK_len k v ch; omega, h3, h4, by push_cast; omega, rfl, rfl⟩
    have hchz : ch.length ≤ sizeLine := Nat.le_trans (show ch.length ≤ 60 by omega) (by decide)
    (show ?g390; have q_ : type_of% (px (G := ?g390) (by (conv => rhs; whnf); (repeat ((first | (apply sgA; with_reducible assumption) | (apply sgT; kernel_rfl) | apply sgP); (conv => rhs; whnf))); exact sgI)) := trivial; refine segM q_ (by kernel_rfl) ?_; clear q_; (repeat (first | with_reducible refine tt ?_ | refine And.intro (by first | with_reducible assumption | kernel_rfl | omega | (simp only [inR, List.length_cons, List.length_nil]; omega)) ?_)))
    refine ex4 a b c 15 ⟨by kernel_rfl, by kernel_rfl, ⟨ha, by omega, hc⟩, by decide, fun d a1 b1 hd ha1 hb1 hb1' => ?_⟩
    obtain ⟨pc, hpc⟩ : ∃ pc, pool[d.toNat]? = some pc := ⟨_, List.getElem?_eq_getElem (show d.toNat < 15 by omega)⟩
    have hpm := List.mem_of_getElem? hpc
    have ixp : ixL d (tv382.map absP) = some (.int pc) := by rw [pool_tv]; exact ixL_int hd.1 hpc
    (show ?g391; have q_ : type_of% (px (G := ?g391) (by (conv => rhs; whnf); (repeat ((first | (apply sgA; with_reducible assumption) | (apply sgT; kernel_rfl) | apply sgP); (conv => rhs; whnf))); exact sgI)) := trivial; refine segM q_ (by kernel_rfl) ?_; clear q_; (repeat (first | with_reducible refine tt ?_ | refine And.intro (by first | with_reducible assumption | kernel_rfl | omega | (simp only [inR, List.length_cons, List.length_nil]; omega)) ?_)))
    rw [ixp]
    (show ?g392; have q_ : type_of% (px (G := ?g392) (by (conv => rhs; whnf); (repeat ((first | (apply sgA; with_reducible assumption) | (apply sgT; kernel_rfl) | apply sgP); (conv => rhs; whnf))); exact sgI)) := trivial; refine segM q_ (by kernel_rfl) ?_; clear q_; (repeat (first | with_reducible refine tt ?_ | refine And.intro (by first | with_reducible assumption | kernel_rfl | omega | (simp only [inR, List.length_cons, List.length_nil]; omega)) ?_)))
    refine ex4 a1 b1 c 8 ⟨by kernel_rfl, by kernel_rfl, ⟨ha1, by omega, hc⟩, by decide, fun e a2 b2 he ha2 hb2 hb2' => ?_⟩
    obtain ⟨vc, hvc⟩ : ∃ vc, vals8[e.toNat]? = some vc := ⟨_, List.getElem?_eq_getElem (show e.toNat < 8 by omega)⟩
    have hvm := List.mem_of_getElem? hvc
    have ixv : ∀ L, L = intPV vals8 → ixL e L = some (.int vc) := fun L q => by rw [q]; exact ixL_int he.1 hvc
    (show ?g393; have q_ : type_of% (px (G := ?g393) (by (conv => rhs; whnf); (repeat ((first | (apply sgA; with_reducible assumption) | (apply sgT; kernel_rfl) | apply sgP); (conv => rhs; whnf))); exact sgI)) := trivial; refine segM q_ (by kernel_rfl) ?_; clear q_; (repeat (first | with_reducible refine tt ?_ | refine And.intro (by first | with_reducible assumption | kernel_rfl | omega | (simp only [inR, List.length_cons, List.length_nil]; omega)) ?_)))
    rw [ixv]
    rotate_left
    · kernel_rfl
    (show ?g394; have q_ : type_of% (px (G := ?g394) (by (conv => rhs; whnf); (repeat ((first | (apply sgA; with_reducible assumption) | (apply sgT; kernel_rfl) | apply sgP); (conv => rhs; whnf))); exact sgI)) := trivial; refine segM q_ (by kernel_rfl) ?_; clear q_; (repeat (first | with_reducible refine tt ?_ | refine And.intro (by first | with_reducible assumption | kernel_rfl | omega | (simp only [inR, List.length_cons, List.length_nil]; omega)) ?_)))
    have hk := hk pc vc a2 b2 hpm hvm ha2 hb2 (by omega)
    exact Eq.mp (by kernel_rfl) hk
  · rintro vars H ⟨n, ch, a, b, hn, I, hch, ha, hb, hb', rfl, rfl⟩
    have hn4 : n = 4 := by simpa using hn
    exact Eq.mp (by kernel_rfl) (hK .none .none ch a b I (by omega) ha hb (by omega))
theorem st3 (I : ChI ch) (hch : ch.length ≤ 5) (hK : ∀ code ns rows, rows.length = 256 → (∀ c : Int, (0 ≤ c ∧ c ≤ 255) → rows[c.toNat]? = some (catOf ch c)) → KK .nx (LV1 lap code) (LH0w sc5 rows [] a b c ch ++ [.list (intPV ns)])) :
    go 16 3 (LV1 lap code) (LH0w sc5 plainRow [] a b c ch) KK := by
  (show ?g395; have q_ : type_of% (px (G := ?g395) (by (conv => rhs; whnf); (repeat ((first | (apply sgA; with_reducible assumption) | (apply sgT; kernel_rfl) | apply sgP); (conv => rhs; whnf))); exact sgI)) := trivial; refine segM q_ (by kernel_rfl) ?_; clear q_; (repeat (first | with_reducible refine tt ?_ | refine And.intro (by first | with_reducible assumption | kernel_rfl | omega | (simp only [inR, List.length_cons, List.length_nil]; omega)) ?_)))
  intro ns hp hs
  have hmem : ∀ k, k ∈ ns ↔ k ∈ ch.map (·.1) := fun k => hp.mem_iff
  (show ?g396; have q_ : type_of% (px (G := ?g396) (by (conv => rhs; whnf); (repeat ((first | (apply sgA; with_reducible assumption) | (apply sgT; kernel_rfl) | apply sgP); (conv => rhs; whnf))); exact sgI)) := trivial; refine segM q_ (by kernel_rfl) ?_; clear q_; (repeat (first | with_reducible refine tt ?_ | refine And.intro (by first | with_reducible assumption | kernel_rfl | omega | (simp only [inR, List.length_cons, List.length_nil]; omega)) ?_)))
  refine ⟨intPV ns, by kernel_rfl, ?_⟩
  refine forK_ind (fun ps vars H => ∃ rest done : List Int, ps = intPV rest ∧ (∀ k, k ∈ ns ↔ (k ∈ rest ∨ k ∈ done)) ∧ H = LH0w sc5 (rowsOf ch done) [] a b c ch ++ [.hid] ∧ vars = LV0) ?_ ?_ _ _ _
    ⟨ns, [], rfl, fun k => by simp, by kernel_rfl, by kernel_rfl⟩
  · rintro i r vars H Kt ⟨rest, done, q1, q2, rfl, rfl⟩ hk
    cases rest with
    | nil => cases q1
    | cons k rest =>
    cases q1
    obtain ⟨v, hv, hk0, hv0⟩ := I.key ((hmem k).mp ((q2 k).mpr (.inl (.head _))))
    have hcat : catOf ch k = v := by unfold catOf; rw [hv]; rfl
    have hrl := rowsOf_len (ch := ch) done
    have hk := hk _ _ ⟨rest, k :: done, rfl, fun j => by rw [q2 j]; simp only [List.mem_cons]; exact ⟨fun z => z.elim (fun z => z.elim (fun z => .inr (.inl z)) .inl) (fun z => .inr (.inr z)), fun z => z.elim (fun z => .inl (.inr z)) (fun z => z.elim (fun z => .inl (.inl z)) .inr)⟩, rfl, rfl⟩
    (show ?g397; have q_ : type_of% (px (G := ?g397) (by (conv => rhs; whnf); (repeat ((first | (apply sgA; with_reducible assumption) | (apply sgT; kernel_rfl) | apply sgP); (conv => rhs; whnf))); exact sgI)) := trivial; refine segM q_ (by kernel_rfl) ?_; clear q_; (repeat (first | with_reducible refine tt ?_ | refine And.intro (by first | with_reducible assumption | kernel_rfl | omega | (simp only [inR, List.length_cons, List.length_nil]; omega)) ?_)))
    rw [hv]
    (show ?g398; have q_ : type_of% (px (G := ?g398) (by (conv => rhs; whnf); (repeat ((first | (apply sgA; with_reducible assumption) | (apply sgT; kernel_rfl) | apply sgP); (conv => rhs; whnf))); exact sgI)) := trivial; refine segM q_ (by kernel_rfl) ?_; clear q_; (repeat (first | with_reducible refine tt ?_ | refine And.intro (by first | with_reducible assumption | kernel_rfl | omega | (simp only [inR, List.length_cons, List.length_nil]; omega)) ?_)))
    refine ex3 (rowsOf ch done) k v ⟨by kernel_rfl, by kernel_rfl, hk0, hv0, hrl, ?_⟩
    rw [show (rowsOf ch done).set k.toNat v = rowsOf ch (k :: done) by (show _ = (rowsOf ch done).set k.toNat (catOf ch k)); rw [hcat]]
    (show ?g399; have q_ : type_of% (px (G := ?g399) (by (conv => rhs; whnf); (repeat ((first | (apply sgA; with_reducible assumption) | (apply sgT; kernel_rfl) | apply sgP); (conv => rhs; whnf))); exact sgI)) := trivial; refine segM q_ (by kernel_rfl) ?_; clear q_; (repeat (first | with_reducible refine tt ?_ | refine And.intro (by first | with_reducible assumption | kernel_rfl | omega | (simp only [inR, List.length_cons, List.length_nil]; omega)) ?_)))
    exact Eq.mp (by kernel_rfl) hk
  · rintro vars H ⟨rest, done, q1, q2, rfl, rfl⟩
    cases rest with
    | cons => cases q1
    | nil =>
    have hrows := rowsOf_all I (ns := done) fun k => by rw [← hmem k, q2 k]; simp
    exact Eq.mp (by kernel_rfl) (hK .none ns (rowsOf ch done) (rowsOf_len (ch := ch) done) hrows)
theorem st4 (hl5 : sc5.length ≤ 63) (I : ChI ch) (hch : ch.length ≤ 5) (ha : 0 ≤ a) (hb : 0 ≤ b) (hb' : b ≤ 8) (hc : 0 ≤ c ∧ c < 1000003)
    (hK : ∀ esc a b row0, (esc = 92 ∨ esc = 124) → RowOk ch true 0 (row0 ++ [.ch 11 120]) → row0.length ≤ 32 → KK .nx (LV5 lap code esc) (LH5 sc5 rows [] a b c ch ns (row0 ++ [.ch 11 120]))) :
    go 15 4 (LV1 lap code) (LH0w sc5 rows [] a b c ch ++ [.list (intPV ns)]) KK := by
  (show ?g400; have q_ : type_of% (px (G := ?g400) (by (conv => rhs; whnf); (repeat ((first | (apply sgA; with_reducible assumption) | (apply sgT; kernel_rfl) | apply sgP); (conv => rhs; whnf))); exact sgI)) := trivial; refine segM q_ (by kernel_rfl) ?_; clear q_; (repeat (first | with_reducible refine tt ?_ | refine And.intro (by first | with_reducible assumption | kernel_rfl | omega | (simp only [inR, List.length_cons, List.length_nil]; omega)) ?_)))
  refine ex4 a b c 2 ⟨by kernel_rfl, by kernel_rfl, ⟨ha, by omega, hc⟩, by decide, fun d a1 b1 hd ha1 hb1 hb1' => ?_⟩
  obtain ⟨esc, hesc⟩ : ∃ esc : Int, ([92, 124] : List Int)[d.toNat]? = some esc := ⟨_, List.getElem?_eq_getElem (show d.toNat < 2 by omega)⟩
  have he2 : esc = 92 ∨ esc = 124 := by simpa using List.mem_of_getElem? hesc
  have ixe : ∀ L, L = intPV [92, 124] → ixL d L = some (.int esc) := fun L q => by rw [q]; exact ixL_int hd.1 hesc
  (show ?g401; have q_ : type_of% (px (G := ?g401) (by (conv => rhs; whnf); (repeat ((first | (apply sgA; with_reducible assumption) | (apply sgT; kernel_rfl) | apply sgP); (conv => rhs; whnf))); exact sgI)) := trivial; refine segM q_ (by kernel_rfl) ?_; clear q_; (repeat (first | with_reducible refine tt ?_ | refine And.intro (by first | with_reducible assumption | kernel_rfl | omega | (simp only [inR, List.length_cons, List.length_nil]; omega)) ?_)))
  rw [ixe]
  rotate_left
  · kernel_rfl
  (show ?g402; have q_ : type_of% (px (G := ?g402) (by (conv => rhs; whnf); (repeat ((first | (apply sgA; with_reducible assumption) | (apply sgT; kernel_rfl) | apply sgP); (conv => rhs; whnf))); exact sgI)) := trivial; refine segM q_ (by kernel_rfl) ?_; clear q_; (repeat (first | with_reducible refine tt ?_ | refine And.intro (by first | with_reducible assumption | kernel_rfl | omega | (simp only [inR, List.length_cons, List.length_nil]; omega)) ?_)))
  refine ex2 sc5 ch ⟨by kernel_rfl, by kernel_rfl, by omega, I.ok, fun row0 hrow hrl0 => ?_⟩
  have hK := hK esc a1 b1 row0 he2 hrow hrl0
  (show ?g403; have q_ : type_of% (px (G := ?g403) (by (conv => rhs; whnf); (repeat ((first | (apply sgA; with_reducible assumption) | (apply sgT; kernel_rfl) | apply sgP); (conv => rhs; whnf))); exact sgI)) := trivial; refine segM q_ (by kernel_rfl) ?_; clear q_; (repeat (first | with_reducible refine tt ?_ | refine And.intro (by first | with_reducible assumption | kernel_rfl | omega | (simp only [inR, List.length_cons, List.length_nil]; omega)) ?_)))
  exact Eq.mp (by kernel_rfl) hK
end

section
variable {sc5 rows : List Int} {a b c : Int} {ch : List (Int × Int)} {esc : Int} {ns : List Int} {row : List LT} {lap code : PV} {K : Kv}
noncomputable def then_ (n k : Nat) (K : KS) : KS := fun fl v2 H2 => match fl with
  | .nx => wpS n cx438 S438 v2 ((fBody (tl 50)).drop k) H2 K
  | .ct => K .ct v2 H2
  | .bk => K .bk v2 H2
  | .rt v => K (.rt v) v2 H2
theorem law5 (V : ∀ l : List Str, l.length ≤ 33 → Env ch esc rows l) (R : RowOk ch true 0 row) (last : ∃ r, row = r ++ [.ch 11 120]) (hrl : row.length ≤ 33) (h : K (.p (.bool true)) []) :
    wpS 15 cx438 S438 (LV5 lap code esc) ((fBody (tl 50)).drop 5) (LH5 sc5 rows [] a b c ch ns row) (K438 K) := by
  have g5 : go 14 5 (LV5 lap code esc) (LH5 sc5 rows [] a b c ch ns row) (then_ 14 6 (K438 K)) := st5 R hrl fun l hn hl => by
    have D : Dr ch esc rows l row := ⟨V l (by omega), R, last, hrl, hn⟩
    have g8 : go 11 8 (LV8 lap code ch esc l row) (LH9 sc5 rows l a b c ch esc ns row) (then_ 11 9 (K438 K)) := st8 D (law10 D h)
    have g7 : go 12 7 (LV7 lap code esc l) (LH7 sc5 rows l a b c ch esc ns row) (then_ 12 8 (K438 K)) := st7 D (Eq.mp (by kernel_rfl) g8)
    have g6 : go 13 6 (LV6 lap code esc) (LH6 sc5 rows l a b c ch ns row) (then_ 13 7 (K438 K)) := st6 D (Eq.mp (by kernel_rfl) g7)
    exact Eq.mp (by kernel_rfl) g6
  exact Eq.mp (by kernel_rfl) g5
theorem law1 (hl5 : sc5.length ≤ 63) (h : K (.p (.bool true)) []) : wpS 19 cx438 S438 LVb ((fBody (tl 50)).drop 1) (LHb sc5) (K438 K) := by
  have g1 : go 18 1 LVb (LHb sc5) (then_ 18 2 (K438 K)) := st1 hl5 fun a c ha hc => by
    have g2 : go 17 2 LV0 (LH0w sc5 plainRow [] a 0 c [(124, 0)]) (then_ 17 3 (K438 K)) := st2 ha hc fun lap code ch a b I hch ha hb hb' => by
      have g3 : go 16 3 (LV1 lap code) (LH0w sc5 plainRow [] a b c ch) (then_ 16 4 (K438 K)) := st3 I hch fun code ns rows hrl hrows => by
        have g4 : go 15 4 (LV1 lap code) (LH0w sc5 rows [] a b c ch ++ [.list (intPV ns)]) (then_ 15 5 (K438 K)) := st4 hl5 I hch ha hb hb' hc fun esc a b row0 he hrow hr0 =>
          law5 (fun l hl => ⟨I.ok, ⟨by omega, by omega⟩, I.esc0 he, hrl, hrows, by omega⟩) hrow ⟨row0, rfl⟩ (by simp; omega) h
        exact Eq.mp (by kernel_rfl) g4
      exact Eq.mp (by kernel_rfl) g3
    exact Eq.mp (by kernel_rfl) g2
  exact Eq.mp (by kernel_rfl) g1
end

noncomputable def s0V : Expr := match stm 0 with
  | .Assign _ v _ => v
  | _ => default
noncomputable def s0T : Expr := match stm 0 with
  | .Assign (t :: _) _ _ => t
  | _ => default
noncomputable def s0E : List Expr := match s0V with
  | .Tuple (_ :: es) _ _ => es
  | _ => []
theorem s0_eq : ∃ p1 p2 p3 p4 k p5 p6, stm 0 = .Assign [s0T] s0V p6 ∧ s0V = .Tuple (.Subscript (.Name (sn "script") p1) (.Slice none (some (.Constant (.int 5) 0 p2)) none p3) p4 :: s0E) k p5 :=
  ⟨_, _, _, _, _, _, _, rfl, rfl⟩
theorem body_eq : fBody (tl 50) = stm 0 :: (fBody (tl 50)).drop 1 := by kernel_rfl
theorem s0_sw : swOk s0T s0V = true ∧ notComp s0V = true := ⟨by kernel_rfl, by kernel_rfl⟩
section
variable {sc5 : List Int} {a : Addr} {KK : KS}
theorem st0 (hK : KK .nx LVb (LHb sc5)) : evs (wpE 19 cx438 [(sn "script", .raw (.ref a))]) s0E [.list (intPV sc5)] fun svs H => Nat.ble (svs.length + 1) 1000 = true ∧
    assignK (wpE 20 cx438 [(sn "script", .raw (.ref a))]) S438 s0T (mkTup (.ref 0 :: svs)) [(sn "script", .raw (.ref a))] H fun vars2 H2 => KK .nx vars2 H2 := by
  (show ?g404; have q_ : type_of% (px (G := ?g404) (by (conv => rhs; whnf); (repeat ((first | (apply sgA; with_reducible assumption) | (apply sgT; kernel_rfl) | apply sgP); (conv => rhs; whnf))); exact sgI)) := trivial; refine segM q_ (by kernel_rfl) ?_; clear q_; (repeat (first | with_reducible refine tt ?_ | refine And.intro (by first | with_reducible assumption | kernel_rfl | omega | (simp only [inR, List.length_cons, List.length_nil]; omega)) ?_)))
  exact Eq.mp (by kernel_rfl) hK
end

section
variable {prog : Program} {w : World} {h₀ : Heap} {lev : Nat} {A : Around} {env : PySem.Env} {cx : Cx} {vars : Vars} {st : List Str} {s : Shared} {g : Sg} {E : Value → Shared → Prop}
theorem cut_hand (B : Bs w h₀) (R : Rm A (lev + 1)) (C : CxOk prog w h₀ lev cx env) {a : Addr} {vs : Array Value} {sc : List Int} (S : St prog w h₀ s g) (F : Fe h₀ env [(sn "script", .raw (.ref a))] s g) (hg : g.H = []) (ha : h₀.get? a = some (listOf vs 0))
    (pc : PCs h₀ vs.toList (intPV sc)) (hsl : sc.length ≤ 63) {p1 p2 p3 p4 : Pos} {K : Kv} {Q : Value → Shared → Prop} (h : ∀ sc5 : List Int, sc5.length ≤ 63 → K (.ref 0) [.list (intPV sc5)]) (G : Gives prog w h₀ s g K Q) :
    wpAny (model prog w) A (eval (.Subscript (.Name (sn "script") p1) (.Slice none (some (.Constant (.int 5) 0 p2)) none p3) p4) env) Q E s := by
  have Ek := (all_ok (prog := prog) (lev := lev) B 1).1
  have hnm : nameK cx [(sn "script", .raw (.ref a))] (sn "script") g.H fun sv H => sv = .raw (.ref a) ∧ H = g.H := by
    unfold nameK
    rw [show lk (sn "script") [(sn "script", SV.raw (.ref a))] = some (.raw (.ref a)) from if_pos rfl]
    exact ⟨rfl, rfl⟩
  refine sub_any (wpAny_Name (name_ok B C S F hnm fun o so s1 g1 P1 c1 k1 => ?_) (name_dbg C F hnm))
  obtain ⟨rfl, k1⟩ := k1
  cases c1
  refine wpAny_Slice (part_ok Ek R C P1.st (F.keep P1) (K := fun sv H => sv = .p .none ∧ H = g.H) ⟨rfl, k1⟩ fun l sl s2 g2 P2 c2 k2 => ?_)
  obtain ⟨rfl, k2⟩ := k2
  refine part_ok Ek R C P2.st ((F.keep P1).keep P2) (K := fun sv H => sv = .p (.int 5) ∧ H = g.H) ⟨rfl, k2⟩ fun u su s3 g3 P3 c3 k3 => wpAny_pure ?_
  obtain ⟨rfl, k3⟩ := k3
  have P12 := P1.trans' (P2.trans' P3)
  have P4 := Po.push P3.st { cls := .type "slice", data := .fields #[l, u, .none] } s3.toks
  have e4 := P4.st.keep _ _ ha
  refine ⟨⟨_, _, slot_list_getitem.lookup, ⟨_, e4, rfl⟩⟩, ?_⟩
  have pl : IsPart l none := ((P3.sc c2).part rfl)
  have pu : IsPart u (some 5) := c3.part rfl
  have pc4 := pc.mono (fun b o e _z => P4.st.keep b o e)
  have l1 := pc4.length
  rw [Array.length_toList] at l1
  obtain ⟨sc5, hcut, hl5⟩ := cut5 sc
  refine wpAny_getItem_list_slice (IsList.of e4) (Heap.IsSliceOf.new _ _ _ _) pl pu .none (by simp) ((G.after (P12.trans' P4)).pushList P4.st (tk := s3.toks) (l := cutL (intPV sc) none (some 5)) ?_ ?_) (by rw [l1, intPV_len]; exact Nat.le_trans hsl (by decide))
  · rw [kms_pick_eq]
    show PCs _ (kms_pick vs.toList none (some 5)) _
    unfold kms_pick cutL
    rw [pc4.length]
    exact (pc4.drop _).take _
  · show K (.ref g3.H.length) (g3.H ++ _)
    rw [hcut, k3, hg]
    exact h sc5 hl5
theorem law_body (B : Bs w h₀) {a : Addr} {vs : Array Value} {sc : List Int} (ha : h₀.get? a = some (listOf vs 0)) (pc : PCs h₀ vs.toList (intPV sc)) (hsl : sc.length ≤ 63) {K : Kv} (h : K (.p (.bool true)) []) :
    BodyOk prog w h₀ 16 cx438 S438 [(sn "script", .raw (.ref a))] (fBody (tl 50)) [] (K438 K) := by
  intro A env s g Q E R C T S F e G
  obtain ⟨p1, p2, p3, p4, k, p5, p6, e0, eV⟩ := s0_eq
  rw [body_eq, e0]
  refine wpAny_execs_cons ?_
  rw [exec_assign]
  refine wpAny_bind (wpAny_standAt ?_)
  rw [swaps_plain s0_sw.2]
  refine wpAny_bind (wpAny_pure ?_)
  refine assign_main (m := 20) (K := fun v2 H2 => then_ 19 1 (K438 K) .nx v2 H2) B R C T S F s0_sw.1 (fun Q' hq => ?_) (fun vars' s' g' P F' k => ?_)
  · rw [eV]
    refine wpAny_Tuple ?_
    rw [starEach_cons (by rfl)]
    show wpAny _ _ (spliced ((false, eval _ env) :: backTo p5 (starEach s0E env))) _ _ _
    refine spliced_cons (cut_hand B R C S F e ha pc hsl (K := fun v H => v = .ref 0 ∧ ∃ sc5 : List Int, sc5.length ≤ 63 ∧ H = [.list (intPV sc5)]) (fun sc5 h => ⟨rfl, sc5, h, rfl⟩) fun v sv s1 g1 P1 c1 k1 => ?_)
    obtain ⟨rfl, sc5, h5, e1⟩ := k1
    have hev := st0 (a := a) (sc5 := sc5) (KK := then_ 19 1 (K438 K)) (law1 h5 h)
    rw [← e1] at hev
    refine evs_ok (all_ok (prog := prog) (lev := 16) B 19).1 R C p5 s0E s1 g1 _ _ P1.st (F.keep P1) hev fun vs' svs s2 g2 P2 c2 k2 => ?_
    have hc := SCs.cons (P2.sc c1) c2
    refine ⟨by rw [hc.length]; exact Nat.le_trans (Nat.le_of_ble_eq_true k2.1) (by decide), ?_⟩
    have P3 := Po.push P2.st { cls := .type "tuple", data := .seq (v :: vs').toArray } s2.toks
    exact hq _ _ _ g2 ((P1.trans' P2).trans' P3) (mkTup_ok (Heap.get?_push_size _ rfl) rfl rfl (by simpa using P3.scs hc)) k2.2
  · exact sall_ok B 19 A env cx438 S438 vars' _ s' g' _ Q E R C T P.st F' k (G.after P)
theorem s438 (B : Bs w h₀) : Sound prog w h₀ 438 18 (ctG prog w h₀ 16 Γ438 U438 [sn "script"] F438 S438 (tl 50) []) := by
  refine def_soundG (dvs := []) B (lk438 _).1 (lk438 _).2 (t := 881) (by rfl) f438 (fun _z _z _z => .nil) (fun s vs X hl => ?_) (consΓ ((s235 B).mono (by omega)) (consΓ ((s187 B).mono (by omega)) (consΓ ((s395 B).mono (by omega)) (consΓ ((s402 B).mono (by omega)) (consΓ ((s232 B).mono (by omega)) (consΓ ((s421 B).mono (by omega))
    (consΓ ((s170 B).mono (by omega)) (consΓ ((s184 B).mono (by omega)) (consΓ ((s428 B).mono (by omega)) (consΓ ((s277 B).mono (by omega)) (consΓ ((s285 B).mono (by omega)) (consΓ (s433 B) noΓ))))))))))))
  obtain ⟨a, rfl⟩ := ln1 (k := 0) hl
  exact BindsTo.of_eq (by rfl)
theorem law_call (B : Bs w h₀) {a : Addr} {vs : Array Value} {sc : List Int} (ha : h₀.get? a = some (listOf vs 0)) (pc : PCs h₀ vs.toList (intPV sc)) (hsl : sc.length ≤ 63) (R : Rm A 18) (hs : s.heap = h₀) {Q : Result → Shared → Prop}
    (h : ∀ s', (∀ b o, h₀.get? b = some o → s'.heap.get? b = some o) → (∃ hp tk, s' = { s with heap := hp, toks := tk }) → Q (.ok (.ret (.bool true))) s') : codeAny (model prog w) A (.call (.ref 438) ⟨[.ref a], []⟩) Q s := by
  have S : St prog w h₀ s ⟨fun _z => 0, []⟩ := ⟨fun b o e => by rw [hs]; exact e, fun n o e => by simp at e, fun n m hn => by simp at hn, fun n hn => by simp at hn⟩
  refine (s438 B).run A s ⟨fun _z => 0, []⟩ [.ref a] [.raw (.ref a)] (fun v _z => v = .p (.bool true)) Q R S (.cons (.raw _) .nil) ⟨rfl, law_body B ha pc hsl rfl⟩ fun v sv s' g' P c k => ?_
  subst k
  cases c with | p c => cases c with | bool _ =>
  exact h s' P.st.keep P.ev.same
end

theorem Ns_eq {h : Heap} {a : Addr} {m m' : Str → Option Value} (x : h.Ns a m) (y : h.Ns a m') (n : Str) : m n = m' n := by
  obtain ⟨o, es, ep, e, d, _, q⟩ := x
  obtain ⟨o', es', ep', e', d', _, q'⟩ := y
  rw [e] at e'
  cases e'
  rw [d] at d'
  cases d'
  rw [← q, ← q']
theorem well_ints {P : Params} {h h' : Heap} : ∀ {vs : List Value} {ns : List Int}, WellAll P h vs (ofPys (ns.map .int)) → PCs h' vs (intPV ns)
  | _, [], q => by cases q; exact .nil
  | _, i :: r, q => by
    rw [List.map_cons, ofPys, ofPy] at q
    cases q with | cons a q => cases a with | int _ t => exact .cons (.int i t) (well_ints q)
theorem law_good {prog : Program} {w : World} {s : Shared} {mg mb : Str → Option Value} (KX : (K w.params).In s.heap) (Tg : s.heap.Ns mainGlobals mg) (Tn : s.heap.NoLimit) (Tb : s.heap.Ns builtinsNs mb) (Tbb : ∀ x : Str, x ≠ "__name__" → mb x = bootBuiltins x) {fa a : Addr}
    (hmg : mg (sn "law") = some (.ref fa)) {ns : List Int} (w1 : Well w.params s.heap (.ref a) (ofPy (.list (ns.map .int)))) (hl : ns.length ≤ 63) {Q : Result → Shared → Prop}
    (h : ∀ s', (∀ b o, s.heap.get? b = some o → s'.heap.get? b = some o) → (∃ hp tk, s' = { s with heap := hp, toks := tk }) → Q (.ok (.ret (.bool true))) s') : codeAny (model prog w) callerA (.call (.ref fa) ⟨[.ref a], []⟩) Q s := by
  have B : Bs w s.heap := ⟨KX, Tn, mb, Tb, Tbb⟩
  have e := Ns_eq Tg B.main (sn "law")
  rw [hmg] at e
  have : lk (sn "law") (mainE.map fun e => (e.1, e.2.2)) = some (.ref 438) := by kernel_rfl
  rw [this] at e
  cases e
  rw [ofPy] at w1
  cases w1 with | list e q =>
  exact law_call B e (by simpa using well_ints q) hl ⟨rfl, by decide, by decide⟩ rfl h

end Mine
set_option tactic.hygienic true
namespace Mine
open PySem PySem.W PySem.Calls PyProof.Rows
theorem holds_all : PySem.Challenge.rw_sq0035_01.Holds := by
  w_on
  refine holds_law said_ok fun said => ?_
  refine holds_open (q := vw) (loose := loose) (Xt := XtM) (XP := XL vw []) (Yf := hook.obs) (Ya := hook.val) (YP := hook.says) (N := 8008) hl hook.of hook.keeps (fun s e => xl_of s (Bool.and_eq_true_iff.mp e).1) XL.keeps (by rfl) (by rfl) (by rfl)
    (fun s e => recFacts_of (Bool.and_eq_true_iff.mp e).2) (by rfl) (by first | assumption | decide +kernel) (by decide +kernel) ⟨rfl, rfl, rfl, rfl, rfl, by decide +kernel⟩ ?hw ?hc
  case hw => w_witness2
  intro w s₀ s₁ mg mb G Y fa o pm cd doc dV kV ho hd hcd hD hmg hg args vals as hpre hlay hrd hwl hlo
  have KX := kIn_of Y
  refine Ground.open G ?_
  intro T B D TE TW
  wrow_args hpre hlay hrd hwl hlo
  refine enter_call ?_
  w_top on
  rename_i ns hs hlay0 hL1 hr1 hl2 as4 as3 a vals1 as0 hL ra w1 r0 hI hr hc1 hc2
  clear hd hcd hD ho
  refine law_good KX T.g T.nolimit T.b T.builtins hmg w1 (by omega) fun s' hk hsame => ?_
  obtain ⟨hp, tk, rfl⟩ := hsame
  refine ⟨.inl ⟨_, .bool true, [], rfl, fun _z => rfl, .bool true, ?_, fun _z => ⟨.nil, fun _z h => by cases h⟩⟩, .of_keep hk, rfl, .of_eq hg⟩
  wrow_post
end Mine
theorem PySem.Challenge.cw_sq0035_01_holds : PySem.Challenge.rw_sq0035_01.Holds := by
  exact Mine.holds_all
