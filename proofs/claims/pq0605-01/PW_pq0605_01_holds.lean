import PyProof.Rows.All
import Wide.All
import OpenK.AllK
import Wide.FinOn
import PySem.Challenge.RW_pq0605_01
set_option Elab.async false
set_option maxRecDepth 100000
set_option autoImplicit false
set_option maxHeartbeats 8000000
set_option linter.unusedVariables false
set_option linter.unusedSimpArgs false
namespace Mine
-- HA
section
open PySem PySem.W PyProof.Rows
noncomputable abbrev vS := Value.str
noncomputable abbrev vI := Value.int
noncomputable abbrev vR := Value.ref
noncomputable abbrev vN := Value.none
noncomputable abbrev vB := Value.builtin
noncomputable abbrev vT := Value.type
noncomputable abbrev eN (P : Params) (k : Str) (t : Tok) (v : Value) : DictEntry := ⟨PyData.keyHash P k, .str k t, v⟩
noncomputable abbrev tU (xs : Array Value) : Obj := ⟨.type "tuple", none, .seq xs, #[]⟩
noncomputable def sP (p : Program) (i : Nat) : Stmt := (p.main.body[i]?).getD (.Pass ⟨0, 0, 0, 0⟩)
noncomputable def sK (p : Program) (i j : Nat) : Stmt := match sP p i with
  | .ClassDef _ _ _ b _ _ _ _ _ _ _ => (b[j]?).getD (.Pass ⟨0, 0, 0, 0⟩)
  | s => s
noncomputable def fO (s : Stmt) (n q : Str) (d : Value) (m : Str) (t : Tok) (c : Addr) : Obj := match s with
  | .FunctionDef _ args body _ _ _ scope _ _ _ => ⟨.type "function", none, .func ⟨n, q, args, .stmts body, scope, 3, [], d, .none, .none, .str m t, none, .ref c, .none, 0⟩, #[]⟩
  | _ => ⟨.none, none, .seq #[], #[]⟩
noncomputable def cO (n q : Str) (t : Tok) (l k : Int) (a : Addr) (v1 v2 v3 v4 v5 : Value) (x : Int) : Obj :=
  ⟨.type "code", none, .fields #[.str n t, .str q (t + 1), .str "/claim/cut.py" (t + 2), .int l 0, .int k 0, .int 0 0, .int 0 0, .int 3 0, .ref a, .bool true, .int 181 0, v1, v2, v3, v4, v5, .int x 0, .int l 0, .str "/claim/cut.py" (x.toNat + 1)], #[]⟩
noncomputable def kpF (p : Program) (P : Params) : Frag := [(2, Obj.mk vN none (Data.dict #[eN P "type.__subclasses__.Exception.0" 223 (vI 39 0), eN P "type.__subclasses__.Exception.n" 224 (vI 1 0)] 2) #[]),
 (3, Obj.mk (vT "dict") none (Data.dict #[eN P "__name__" 165 (vS "law_pq0605_01" 678), eN P "__doc__" 166 vN, eN P "__package__" 167 vN, eN P "__loader__" 168 (vB "__main__.__loader__#opaque"), eN P "__spec__" 169 vN, eN P "__annotations__" 170 (vR 6), eN P "__builtins__" 171 (vR 4), eN P "__file__" 173 (vS "/claim/cut.py" 172), eN P "__cached__" 174 vN, eN P "_wall" 193 (vR 21), eN P "LazyError" 226 (vR 39), eN P "WordError" 242 (vR 52), eN P "KEYS" 266 (vR 55), eN P "OPS" 278 (vR 56), eN P "SPECIALS" 280 (vS "()[],;`{}" 279), eN P "SYMBOLS" 282 (vS "!#$%&*+./<=>?@\\^|-~:" 281), eN P "SMALL" 284 (vS "abcdefghijklmnopqrstuvwxyz_" 283), eN P "GREAT" 286 (vS "ABCDEFGHIJKLMNOPQRSTUVWXYZ" 285), eN P "DIGITS" 288 (vS "0123456789" 287), eN P "TAB" 290 (vI 8 289), eN P "MOST_SIGN" 292 (vI 1114111 291), eN P "PLAIN_ESCAPES" 323 (vR 57), eN P "NAMED_ESCAPES" 357 (vR 58), eN P "DELETE" 359 (vI 127 358), eN P "Word" 414 (vR 90), eN P "Signs" 488 (vR 147), eN P "is_among" 496 (vR 158), eN P "name_letters" 502 (vR 165), eN P "is_line_comment" 510 (vR 172), eN P "skip_nested" 520 (vR 179), eN P "skip_between" 529 (vR 186), eN P "number_of" 539 (vR 193), eN P "based_number" 548 (vR 200), eN P "read_number" 556 (vR 207), eN P "checked_sign" 564 (vR 214), eN P "named_escape" 575 (vR 221), eN P "read_escape" 588 (vR 228), eN P "read_char" 597 (vR 235), eN P "skip_gap" 605 (vR 242), eN P "read_text" 615 (vR 249), eN P "symbol_kind" 622 (vR 256), eN P "behind_point" 631 (vR 263), eN P "read_great_name" 642 (vR 270), eN P "symbols_ahead" 650 (vR 277), eN P "read_word" 662 (vR 284), eN P "words_of" 677 (vR 291), eN P "_law_trough" 689 (vR 298), eN P "_law_gulp" 698 (vR 305), eN P "_law_menu" 704 (vR 312), eN P "_law_source" 714 (vR 319), eN P "_law_go" 723 (vR 326), eN P "_law_add" 731 (vR 333), eN P "_law_gap" 738 (vR 340), eN P "_law_page" 749 (vR 347), eN P "_law_spoilt" 756 (vR 354), eN P "_law_told" 762 (vR 359), eN P "law" 768 (vR 364)] 57) #[]),
 (20, cO "_wall" "_wall" 187 1 1 15 (vR 16) (vN) (vR 17) (vR 18) (vR 19) 191),
 (21, fO (sP p 0) "_wall" "_wall" vN "__main__" 164 20),
 (29, tU #[vN]),
 (35, cO "__init__" "LazyError.__init__" 208 7 3 30 (vR 31) (vN) (vR 32) (vR 33) (vR 34) 214),
 (36, fO (sK p 2 0) "__init__" "LazyError.__init__" (vR 29) "lazycore.errors" 194 35),
 (38, Obj.mk (vT "dict") none (Data.dict #[eN P "__module__" 203 (vS "lazycore.errors" 194), eN P "__firstlineno__" 207 (vI 5 206), eN P "__init__" 216 (vR 36), eN P "__static_attributes__" 219 (vR 37), eN P "__weakref__" 221 (vR 40), eN P "__doc__" 222 vN] 3) #[]),
 (39, Obj.mk (vT "type") none (Data.cls (ClassData.mk "LazyError" [vT "Exception"] [vR 39, vT "Exception", vT "BaseException", vT "object"] 38 "LazyError" true [] [vR 52] false none false)) #[some (vR 22), none, some (vS "LazyError" 196), some (vS "LazyError" 204), some (vB "Exception.__new__"), some (Value.bool true)]),
 (40, Obj.mk (vT "getset_descriptor") none (Data.fields #[vS "__weakref__" 220, vR 39, vB "ExceptionGroup.__weakref__", vN]) #[]),
 (51, Obj.mk (vT "dict") none (Data.dict #[eN P "__module__" 234 (vS "lazycore.errors" 194), eN P "__firstlineno__" 238 (vI 11 237), eN P "__static_attributes__" 239 (vR 50), eN P "__doc__" 240 vN] 2) #[]),
 (52, Obj.mk (vT "type") none (Data.cls (ClassData.mk "WordError" [vR 39] [vR 52, vR 39, vT "Exception", vT "BaseException", vT "object"] 51 "WordError" true [] [] false none false)) #[some (vR 43), none, some (vS "WordError" 227), some (vS "WordError" 235), some (vB "Exception.__new__"), some (Value.bool true)]),
 (55, tU #[vS "case" 245, vS "class" 246, vS "data" 247, vS "deriving" 248, vS "do" 249, vS "else" 250, vS "if" 251, vS "\x69mport" 252, vS "in" 253, vS "infix" 254, vS "infixl" 255, vS "infixr" 256, vS "\x69nstance" 257, vS "let" 258, vS "module" 259, vS "newtype" 260, vS "of" 261, vS "then" 262, vS "type" 263, vS "where" 264, vS "_" 265]),
 (56, tU #[vS ".." 267, vS ":" 268, vS "::" 269, vS "=" 270, vS "\\" 271, vS "|" 272, vS "<-" 273, vS "->" 274, vS "@" 275, vS "~" 276, vS "=>" 277]),
 (57, Obj.mk (vT "dict") none (Data.dict #[eN P "a" 293 (vI 7 294), eN P "b" 295 (vI 8 296), eN P "f" 297 (vI 12 298), eN P "n" 299 (vI 10 300), eN P "r" 301 (vI 13 302), eN P "t" 303 (vI 9 304), eN P "v" 305 (vI 11 306), eN P "\\" 307 (vI 92 308), eN P "\"" 309 (vI 34 310), eN P "'" 311 (vI 39 312)] 10) #[]),
 (58, tU #[vS "NUL" 324, vS "SOH" 325, vS "STX" 326, vS "ETX" 327, vS "EOT" 328, vS "ENQ" 329, vS "ACK" 330, vS "BEL" 331, vS "BS" 332, vS "HT" 333, vS "LF" 334, vS "VT" 335, vS "FF" 336, vS "CR" 337, vS "SO" 338, vS "SI" 339, vS "DLE" 340, vS "DC1" 341, vS "DC2" 342, vS "DC3" 343, vS "DC4" 344, vS "NAK" 345, vS "SYN" 346, vS "ETB" 347, vS "CAN" 348, vS "EM" 349, vS "SUB" 350, vS "ESC" 351, vS "FS" 352, vS "GS" 353, vS "RS" 354, vS "US" 355, vS "SP" 356]),
 (66, tU #[vN, Value.bool false]),
 (72, cO "__init__" "Word.__init__" 372 28 7 67 (vR 68) (vN) (vR 69) (vR 70) (vR 71) 382),
 (73, fO (sK p 17 0) "__init__" "Word.__init__" (vR 66) "lazycore.words" 243 72),
 (79, cO "place" "Word.place" 385 36 1 74 (vR 75) (vN) (vR 76) (vR 77) (vR 78) 389),
 (80, fO (sK p 17 1) "place" "Word.place" vN "lazycore.words" 243 79),
 (86, cO "is_word" "Word.is_word" 392 39 3 81 (vR 82) (vN) (vR 83) (vR 84) (vR 85) 398),
 (87, fO (sK p 17 2) "is_word" "Word.is_word" vN "lazycore.words" 243 86),
 (89, Obj.mk (vT "dict") none (Data.dict #[eN P "__module__" 367 (vS "lazycore.words" 243), eN P "__firstlineno__" 371 (vI 26 370), eN P "__init__" 384 (vR 73), eN P "place" 391 (vR 80), eN P "is_word" 400 (vR 87), eN P "__static_attributes__" 407 (vR 88), eN P "__dict__" 409 (vR 91), eN P "__weakref__" 411 (vR 92), eN P "__doc__" 412 vN] 4) #[]),
 (90, Obj.mk (vT "type") none (Data.cls (ClassData.mk "Word" [vT "object"] [vR 90, vT "object"] 89 "Word" true [] [] false none false)) #[none, none, some (vS "Word" 360), some (vS "Word" 368), some (vB "object.__new__"), some (Value.bool true)]),
 (91, Obj.mk (vT "getset_descriptor") none (Data.fields #[vS "__dict__" 408, vR 90, vB "function.__dict__", vB "function.__dict__#set"]) #[]),
 (92, Obj.mk (vT "getset_descriptor") none (Data.fields #[vS "__weakref__" 410, vR 90, vB "ExceptionGroup.__weakref__", vN]) #[]),
 (107, cO "__init__" "Signs.__init__" 427 43 2 102 (vR 103) (vN) (vR 104) (vR 105) (vR 106) 432),
 (108, fO (sK p 18 0) "__init__" "Signs.__init__" vN "lazycore.words" 243 107),
 (109, tU #[vI 0 435]),
 (115, cO "sign" "Signs.sign" 436 49 2 110 (vR 111) (vN) (vR 112) (vR 113) (vR 114) 442),
 (116, fO (sK p 18 1) "sign" "Signs.sign" (vR 109) "lazycore.words" 243 115),
 (122, cO "starts" "Signs.starts" 445 53 2 117 (vR 118) (vN) (vR 119) (vR 120) (vR 121) 450),
 (123, fO (sK p 18 2) "starts" "Signs.starts" vN "lazycore.words" 243 122),
 (129, cO "step" "Signs.step" 453 56 1 124 (vR 125) (vN) (vR 126) (vR 127) (vR 128) 458),
 (130, fO (sK p 18 3) "step" "Signs.step" vN "lazycore.words" 243 129),
 (136, cO "take" "Signs.take" 461 68 2 131 (vR 132) (vN) (vR 133) (vR 134) (vR 135) 467),
 (137, fO (sK p 18 4) "take" "Signs.take" vN "lazycore.words" 243 136),
 (143, cO "place" "Signs.place" 470 74 1 138 (vR 139) (vN) (vR 140) (vR 141) (vR 142) 474),
 (144, fO (sK p 18 5) "place" "Signs.place" vN "lazycore.words" 243 143),
 (146, Obj.mk (vT "dict") none (Data.dict #[eN P "__module__" 422 (vS "lazycore.words" 243), eN P "__firstlineno__" 426 (vI 41 425), eN P "__init__" 434 (vR 108), eN P "sign" 444 (vR 116), eN P "starts" 452 (vR 123), eN P "step" 460 (vR 130), eN P "take" 469 (vR 137), eN P "place" 476 (vR 144), eN P "__static_attributes__" 481 (vR 145), eN P "__dict__" 483 (vR 148), eN P "__weakref__" 485 (vR 149), eN P "__doc__" 486 vN] 4) #[]),
 (147, Obj.mk (vT "type") none (Data.cls (ClassData.mk "Signs" [vT "object"] [vR 147, vT "object"] 146 "Signs" true [] [] false none false)) #[none, none, some (vS "Signs" 415), some (vS "Signs" 423), some (vB "object.__new__"), some (Value.bool true)]),
 (148, Obj.mk (vT "getset_descriptor") none (Data.fields #[vS "__dict__" 482, vR 147, vB "function.__dict__", vB "function.__dict__#set"]) #[]),
 (149, Obj.mk (vT "getset_descriptor") none (Data.fields #[vS "__weakref__" 484, vR 147, vB "ExceptionGroup.__weakref__", vN]) #[]),
 (157, cO "is_among" "is_among" 489 76 2 152 (vR 153) (vN) (vR 154) (vR 155) (vR 156) 494),
 (158, fO (sP p 19) "is_among" "is_among" vN "lazycore.words" 243 157),
 (164, cO "name_letters" "name_letters" 497 78 0 159 (vR 160) (vN) (vR 161) (vR 162) (vR 163) 500),
 (165, fO (sP p 20) "name_letters" "name_letters" vN "lazycore.words" 243 164),
 (171, cO "is_line_comment" "is_line_comment" 503 80 1 166 (vR 167) (vN) (vR 168) (vR 169) (vR 170) 508),
 (172, fO (sP p 21) "is_line_comment" "is_line_comment" vN "lazycore.words" 243 171),
 (178, cO "skip_nested" "skip_nested" 511 87 1 173 (vR 174) (vN) (vR 175) (vR 176) (vR 177) 518),
 (179, fO (sP p 22) "skip_nested" "skip_nested" vN "lazycore.words" 243 178),
 (185, cO "skip_between" "skip_between" 521 99 1 180 (vR 181) (vN) (vR 182) (vR 183) (vR 184) 527),
 (186, fO (sP p 23) "skip_between" "skip_between" vN "lazycore.words" 243 185),
 (192, cO "number_of" "number_of" 530 113 2 187 (vR 188) (vN) (vR 189) (vR 190) (vR 191) 537),
 (193, fO (sP p 24) "number_of" "number_of" vN "lazycore.words" 243 192),
 (199, cO "based_number" "based_number" 540 118 1 194 (vR 195) (vN) (vR 196) (vR 197) (vR 198) 546),
 (200, fO (sP p 25) "based_number" "based_number" vN "lazycore.words" 243 199),
 (206, cO "read_number" "read_number" 549 126 1 201 (vR 202) (vN) (vR 203) (vR 204) (vR 205) 554),
 (207, fO (sP p 26) "read_number" "read_number" vN "lazycore.words" 243 206),
 (213, cO "checked_sign" "checked_sign" 557 129 2 208 (vR 209) (vN) (vR 210) (vR 211) (vR 212) 562),
 (214, fO (sP p 27) "checked_sign" "checked_sign" vN "lazycore.words" 243 213),
 (220, cO "named_escape" "named_escape" 565 133 1 215 (vR 216) (vN) (vR 217) (vR 218) (vR 219) 573),
 (221, fO (sP p 28) "named_escape" "named_escape" vN "lazycore.words" 243 220),
 (227, cO "read_escape" "read_escape" 576 143 1 222 (vR 223) (vN) (vR 224) (vR 225) (vR 226) 586),
 (228, fO (sP p 29) "read_escape" "read_escape" vN "lazycore.words" 243 227),
 (234, cO "read_char" "read_char" 589 162 1 229 (vR 230) (vN) (vR 231) (vR 232) (vR 233) 595),
 (235, fO (sP p 30) "read_char" "read_char" vN "lazycore.words" 243 234),
 (241, cO "skip_gap" "skip_gap" 598 173 2 236 (vR 237) (vN) (vR 238) (vR 239) (vR 240) 603),
 (242, fO (sP p 31) "skip_gap" "skip_gap" vN "lazycore.words" 243 241),
 (248, cO "read_text" "read_text" 606 177 1 243 (vR 244) (vN) (vR 245) (vR 246) (vR 247) 613),
 (249, fO (sP p 32) "read_text" "read_text" vN "lazycore.words" 243 248),
 (255, cO "symbol_kind" "symbol_kind" 616 195 1 250 (vR 251) (vN) (vR 252) (vR 253) (vR 254) 620),
 (256, fO (sP p 33) "symbol_kind" "symbol_kind" vN "lazycore.words" 243 255),
 (262, cO "behind_point" "behind_point" 623 199 1 257 (vR 258) (vN) (vR 259) (vR 260) (vR 261) 629),
 (263, fO (sP p 34) "behind_point" "behind_point" vN "lazycore.words" 243 262),
 (269, cO "read_great_name" "read_great_name" 632 213 1 264 (vR 265) (vN) (vR 266) (vR 267) (vR 268) 640),
 (270, fO (sP p 35) "read_great_name" "read_great_name" vN "lazycore.words" 243 269),
 (276, cO "symbols_ahead" "symbols_ahead" 643 230 1 271 (vR 272) (vN) (vR 273) (vR 274) (vR 275) 648),
 (277, fO (sP p 36) "symbols_ahead" "symbols_ahead" vN "lazycore.words" 243 276),
 (283, cO "read_word" "read_word" 651 235 1 278 (vR 279) (vN) (vR 280) (vR 281) (vR 282) 660),
 (284, fO (sP p 37) "read_word" "read_word" vN "lazycore.words" 243 283),
 (290, cO "words_of" "words_of" 663 261 1 285 (vR 286) (vN) (vR 287) (vR 288) (vR 289) 675),
 (291, fO (sP p 38) "words_of" "words_of" vN "lazycore.words" 243 290),
 (297, cO "_law_trough" "_law_trough" 680 273 2 292 (vR 293) (vN) (vR 294) (vR 295) (vR 296) 687),
 (298, fO (sP p 40) "_law_trough" "_law_trough" vN "law_pq0605_01" 678 297),
 (304, cO "_law_gulp" "_law_gulp" 690 277 2 299 (vR 300) (vN) (vR 301) (vR 302) (vR 303) 696),
 (305, fO (sP p 41) "_law_gulp" "_law_gulp" vN "law_pq0605_01" 678 304),
 (311, cO "_law_menu" "_law_menu" 699 284 0 306 (vR 307) (vN) (vR 308) (vR 309) (vR 310) 702),
 (312, fO (sP p 42) "_law_menu" "_law_menu" vN "law_pq0605_01" 678 311),
 (318, cO "_law_source" "_law_source" 705 286 1 313 (vR 314) (vN) (vR 315) (vR 316) (vR 317) 712),
 (319, fO (sP p 43) "_law_source" "_law_source" vN "law_pq0605_01" 678 318),
 (325, cO "_law_go" "_law_go" 715 289 2 320 (vR 321) (vN) (vR 322) (vR 323) (vR 324) 721),
 (326, fO (sP p 44) "_law_go" "_law_go" vN "law_pq0605_01" 678 325),
 (332, cO "_law_add" "_law_add" 724 298 2 327 (vR 328) (vN) (vR 329) (vR 330) (vR 331) 729),
 (333, fO (sP p 45) "_law_add" "_law_add" vN "law_pq0605_01" 678 332),
 (339, cO "_law_gap" "_law_gap" 732 302 1 334 (vR 335) (vN) (vR 336) (vR 337) (vR 338) 736),
 (340, fO (sP p 46) "_law_gap" "_law_gap" vN "law_pq0605_01" 678 339),
 (346, cO "_law_page" "_law_page" 739 304 1 341 (vR 342) (vN) (vR 343) (vR 344) (vR 345) 747),
 (347, fO (sP p 47) "_law_page" "_law_page" vN "law_pq0605_01" 678 346),
 (353, cO "_law_spoilt" "_law_spoilt" 750 312 1 348 (vR 349) (vN) (vR 350) (vR 351) (vR 352) 754),
 (354, fO (sP p 48) "_law_spoilt" "_law_spoilt" vN "law_pq0605_01" 678 353),
 (358, cO "_law_told" "_law_told" 757 314 1 355 (vR 356) (vN) (vN) (vN) (vR 357) 760),
 (359, fO (sP p 49) "_law_told" "_law_told" vN "law_pq0605_01" 678 358),
 (363, cO "law" "law" 763 319 1 360 (vR 361) (vN) (vN) (vN) (vR 362) 766),
 (364, fO (sP p 50) "law" "law" vN "law_pq0605_01" 678 363)]
noncomputable def asK : List Addr := [2, 3, 20, 21, 29, 35, 36, 38, 39, 40, 51, 52, 55, 56, 57, 58, 66, 72, 73, 79, 80, 86, 87, 89, 90, 91, 92, 107, 108, 109, 115, 116, 122, 123, 129, 130, 136, 137, 143, 144, 146, 147, 148, 149, 157, 158, 164, 165, 171, 172, 178, 179, 185, 186, 192, 193, 199, 200, 206, 207, 213, 214, 220, 221, 227, 228, 234, 235, 241, 242, 248, 249, 255, 256, 262, 263, 269, 270, 276, 277, 283, 284, 290, 291, 297, 298, 304, 305, 311, 312, 318, 319, 325, 326, 332, 333, 339, 340, 346, 347, 353, 354, 358, 359, 363, 364]
noncomputable abbrev thePw : Program := PySem.Challenge.pw_pq0605_01
noncomputable def qv (p : Program) : Program := view p [0, 2, 3, 5, 6, 7, 8, 9, 10, 11, 12, 13, 14, 15, 16, 17, 18, 19, 20, 21, 22, 23, 24, 25, 26, 27, 28, 29, 30, 31, 32, 33, 34, 35, 36, 37, 38, 40, 41, 42, 43, 44, 45, 46, 47, 48, 49, 50]
noncomputable def KF (P : Params) : Frag := kpF thePw P
theorem asK_eq : ∀ P, asK = (KF P).map (·.1) := fun P => by kernel_rfl
noncomputable def PP (b : Bool) (w : World) : Prop := (openEnds treeTable thePw (w.withFollow "special-get-raises" b) 5062).map (fun s => (openSeen (qv thePw) ["LazyError", "PLAIN_ESCAPES"] (importedModules thePw.main.body) (fun s => xlAt (qv thePw) [] s && recOk [] s) true s, (Hook.obs (kHook KF asK asK_eq)) s)) = some (openGood (qv thePw) ["LazyError", "PLAIN_ESCAPES"], (Hook.val (kHook KF asK asK_eq)) (w.withFollow "special-get-raises" b))
end
-- HB
section
open PySem PySem.W PyProof.Rows PySem.W.Fast
theorem hlF (w : World) : PP false w := by
  unfold PP openEnds fencedOpening topFrom
  rw [te14082659384304107361, te10274390034422433532, te14289696077712309145, te1435165496053646825, te4187177175401517315, te5923862056798008813, te14364793385576792824]
  kernel_rfl
end
-- HC
section
open PySem PySem.W PyProof.Rows PySem.W.Fast
theorem hlT (w : World) : PP true w := by
  unfold PP openEnds fencedOpening topFrom
  rw [te14082659384304107361, te10274390034422433532, te14289696077712309145, te1435165496053646825, te4187177175401517315, te5923862056798008813, te14364793385576792824]
  kernel_rfl
end
-- HE
section
open PySem PySem.W PyProof.Rows PySem.W.Fast
theorem lk1 : sreFenced thePw.main = true := by rw [te11788848310118352699]; kernel_rfl
theorem lk2 : ((moduleNames thePw.main.body).isEmpty || lookedIntoSs (moduleNames thePw.main.body) thePw.main.body) = true := by rw [te9807087744658564304, te12862048085361865435]; kernel_rfl
theorem lk3 : namesResolve thePw = true := by rw [te8377067652309620493]; kernel_rfl
theorem lk4 : (thePw.boundNames.all fun n => !worldNames.contains n) = true := by rw [te18344453789297297638]; kernel_rfl
theorem lk5 : noRoadLSs { strict := !(importedModules thePw.main.body).all cThrough.contains, foot := none, bare := (["vars", "dir", "locals"] : List Str).filter (readsOut thePw thePw.main.body) } thePw.main.body = true := by rw [te8326940854005059898, te5923862056798008813, te13343964577679436407]; kernel_rfl
theorem lk6 : (namesMeet thePw thePw.main.body fun _ n => attrL n) = true := by rw [te17119622794617984870, te17868728402115742887]; kernel_rfl
theorem lk0 : looksOpen thePw = true := look_both (look_both (look_both (look_both (look_both lk1 lk2) lk3) lk4) lk5) lk6
theorem lkP : PySem.Challenge.rw_pq0605_01.row.partSaid = true := by
  unfold OpenRow.partSaid
  refine look_both (look_both (look_both (look_both (look_both (look_both (look_both (look_both (look_both (look_both (look_both (look_both (look_both lk0 ?_) ?_) ?_) ?_) ?_) ?_) ?_) ?_) ?_) ?_) ?_) ?_) ?_
  all_goals kernel_rfl
theorem lkR : PySem.Challenge.rw_pq0605_01.row.wellSaid = true := look_both (look_both lkP (by kernel_rfl)) (by kernel_rfl)
theorem lkA : (namesMeet thePw (PySem.Challenge.rw_pq0605_01).footing (fun sc n => (!(["type", "isinstance", "issubclass", "getattr", "hasattr"] : List Str).contains n || sc.names.lookup n == some .globalImplicit) &&
    ((PySem.Challenge.rw_pq0605_01).may != some n || sc.kind == .module || sc.names.lookup n == some .globalImplicit))) = true := by rw [te17119622794617984870]; kernel_rfl
theorem lkB : (namesMeet thePw (PySem.Challenge.rw_pq0605_01).above (fun _ n => !(PySem.Challenge.rw_pq0605_01).own.contains n)) = true := by rw [te17119622794617984870, te10792542408131684335]; kernel_rfl
theorem lkC : (namesMeet thePw (PySem.Challenge.rw_pq0605_01).footing fun sc n => sc.kind == .module || sc.names.lookup n != some .globalExplicit) = true := by rw [te17119622794617984870]; kernel_rfl
theorem hsaid : PySem.Challenge.rw_pq0605_01.wellSaid = true := by
  unfold OpenLaw.wellSaid
  refine look_both (look_both (look_both (look_both (look_both (look_both (look_both (look_both (look_both (look_both (look_both (look_both (look_both (look_both (look_both (look_both (look_both (look_both lkR ?_) ?_) ?_) ?_) ?_) ?_) ?_) ?_) ?_) ?_) ?_) ?_) lkA) ?_) ?_) ?_) lkB) lkC
  all_goals as_aux_lemma => kernel_rfl
end
-- A1
section
open PySem PySem.W PyProof.Rows PySem.Calls
/-- plain values -/
inductive V where
  | none
  | bool (b : Bool)
  | int (i : Int)
  | str (s : List Nat)
  | tup (vs : List V)
  | lst (vs : List V)
  | dct (kvs : List (List Nat × V))
  | inst (c : Addr) (i : Nat)
  | obj (i : Nat)
  | glob (v : Value)
/-- what may change: lists, dicts with text keys -/
inductive O where
  | list (vs : List V)
  | dict (kvs : List (List Nat × V))
noncomputable abbrev Hp := List O
noncomputable abbrev Loc := List (Option V)
noncomputable abbrev St (s : List Nat) : Str := ⟨s.toArray⟩
theorem st_toList (x : Str) : St x.cps.toList = x := by cases x; simp [St]
theorem st_inj {a b : List Nat} (h : St a = St b) : a = b := by
  have := congrArg (fun x => x.cps.toList) h; simpa [St] using this
mutual
inductive VR (hf : Str → Int) (P : Addr → Obj → Prop) (ads : List Addr) : V → Value → Prop where
  | none : VR hf P ads .none .none
  | bool (b : Bool) : VR hf P ads (.bool b) (.bool b)
  | int (i : Int) (t : Tok) : VR hf P ads (.int i) (.int i t)
  | str (s : List Nat) (t : Tok) : VR hf P ads (.str s) (.str (St s) t)
  | tup {a : Addr} {vs : List V} {xs : List Value} {n : Nat} : P a { cls := .type "tuple", data := .seq xs.toArray n } → VRs hf P ads vs xs → VR hf P ads (.tup vs) (.ref a)
  | lst {a : Addr} {vs : List V} {xs : List Value} {n : Nat} : P a { cls := .type "list", data := .seq xs.toArray n } → VRs hf P ads vs xs → VR hf P ads (.lst vs) (.ref a)
  | dct {a : Addr} {kvs : List (List Nat × V)} {es : List DictEntry} {n : Nat} : P a (dictOf es n) → (a == sysModules) = false → VKs hf P ads kvs es → VR hf P ads (.dct kvs) (.ref a)
  | inst {x C dx : Addr} {i : Nat} : P x (instObj C dx) → ads[i]? = some dx → VR hf P ads (.inst C i) (.ref x)
  | obj {a : Addr} {i : Nat} : ads[i]? = some a → VR hf P ads (.obj i) (.ref a)
  | glob (v : Value) : VR hf P ads (.glob v) v
inductive VRs (hf : Str → Int) (P : Addr → Obj → Prop) (ads : List Addr) : List V → List Value → Prop where
  | nil : VRs hf P ads [] []
  | cons {v : V} {x : Value} {vs : List V} {xs : List Value} : VR hf P ads v x → VRs hf P ads vs xs → VRs hf P ads (v :: vs) (x :: xs)
inductive VKs (hf : Str → Int) (P : Addr → Obj → Prop) (ads : List Addr) : List (List Nat × V) → List DictEntry → Prop where
  | nil : VKs hf P ads [] []
  | cons {k : List Nat} {t : Tok} {v : V} {x : Value} {r : List (List Nat × V)} {es : List DictEntry} : VR hf P ads v x → VKs hf P ads r es → VKs hf P ads ((k, v) :: r) (⟨hf (St k), .str (St k) t, x⟩ :: es)
end
structure Cx where
  prog : Program
  w : World
  K : Frag
  base : Heap
  mg : Str → Option Value
  mb : Str → Option Value
/-- the hash of a text key in this world -/
noncomputable def Cx.hf (c : Cx) (x : Str) : Int := PyData.keyHash c.w.params x
structure Cx.Ok (c : Cx) : Prop where
  kin : c.K.In c.base
  g : c.base.Ns mainGlobals c.mg
  b : c.base.Ns builtinsNs c.mb
  bb : ∀ x : Str, x ≠ "__name__" → c.mb x = bootBuiltins x
  nolim : c.base.NoLimit
noncomputable abbrev Led := List (Addr × Obj)
/-- what stands for good -/
noncomputable def Im (c : Cx) (ads : List Addr) (led : Led) (a : Addr) (o : Obj) : Prop := ((a, o) ∈ led ∧ a ∉ ads) ∨ c.base.get? a = some o
structure Ext (c : Cx) (ads : List Addr) (led : Led) (ads' : List Addr) (led' : Led) : Prop where
  pre : ∃ more, ads' = ads ++ more
  im : ∀ a o, Im c ads led a o → Im c ads' led' a o
theorem Ext.refl {c : Cx} {ads : List Addr} {led : Led} : Ext c ads led ads led := ⟨⟨[], by simp⟩, fun _ _ h => h⟩
theorem Ext.trans {c : Cx} {a1 a2 a3 : List Addr} {l1 l2 l3 : Led} (x : Ext c a1 l1 a2 l2) (y : Ext c a2 l2 a3 l3) : Ext c a1 l1 a3 l3 := by
  obtain ⟨⟨m1, e1⟩, h1⟩ := x
  obtain ⟨⟨m2, e2⟩, h2⟩ := y
  exact ⟨⟨m1 ++ m2, by rw [e2, e1, List.append_assoc]⟩, fun a o h => h2 _ _ (h1 _ _ h)⟩
theorem Ext.ads {c : Cx} {a1 a2 : List Addr} {l1 l2 : Led} (x : Ext c a1 l1 a2 l2) {i : Nat} {a : Addr} (h : a1[i]? = some a) : a2[i]? = some a := by
  obtain ⟨⟨m, e⟩, _⟩ := x
  subst e
  rw [List.getElem?_append_left (List.getElem?_eq_some_iff.mp h).1]; exact h
section
variable {hf : Str → Int} {P P' : Addr → Obj → Prop} {ads ads' : List Addr}
mutual
theorem VR.mono (hP : ∀ a o, P a o → P' a o) (ha : ∀ (i : Nat) (a : Addr), ads[i]? = some a → ads'[i]? = some a) : ∀ {v : V} {x : Value}, VR hf P ads v x → VR hf P' ads' v x
  | _, _, .none => .none
  | _, _, .bool b => .bool b
  | _, _, .int i t => .int i t
  | _, _, .str s t => .str s t
  | _, _, .tup h r => .tup (hP _ _ h) (VRs.mono hP ha r)
  | _, _, .lst h r => .lst (hP _ _ h) (VRs.mono hP ha r)
  | _, _, .dct h q r => .dct (hP _ _ h) q (VKs.mono hP ha r)
  | _, _, .inst h e => .inst (hP _ _ h) (ha _ _ e)
  | _, _, .obj e => .obj (ha _ _ e)
  | _, _, .glob v => .glob v
theorem VRs.mono (hP : ∀ a o, P a o → P' a o) (ha : ∀ (i : Nat) (a : Addr), ads[i]? = some a → ads'[i]? = some a) : ∀ {v : List V} {x : List Value}, VRs hf P ads v x → VRs hf P' ads' v x
  | _, _, .nil => .nil
  | _, _, .cons h r => .cons (VR.mono hP ha h) (VRs.mono hP ha r)
theorem VKs.mono (hP : ∀ a o, P a o → P' a o) (ha : ∀ (i : Nat) (a : Addr), ads[i]? = some a → ads'[i]? = some a) : ∀ {v : List (List Nat × V)} {x : List DictEntry}, VKs hf P ads v x → VKs hf P' ads' v x
  | _, _, .nil => .nil
  | _, _, .cons h r => .cons (VR.mono hP ha h) (VKs.mono hP ha r)
end
end
theorem Ext.vr {c : Cx} {a1 a2 : List Addr} {l1 l2 : Led} (x : Ext c a1 l1 a2 l2) {v : V} {y : Value} (h : VR c.hf (Im c a1 l1) a1 v y) : VR c.hf (Im c a2 l2) a2 v y := h.mono x.im fun _ _ => x.ads
theorem Ext.vrs {c : Cx} {a1 a2 : List Addr} {l1 l2 : Led} (x : Ext c a1 l1 a2 l2) {v : List V} {y : List Value} (h : VRs c.hf (Im c a1 l1) a1 v y) : VRs c.hf (Im c a2 l2) a2 v y := h.mono x.im fun _ _ => x.ads
theorem Ext.vks {c : Cx} {a1 a2 : List Addr} {l1 l2 : Led} (x : Ext c a1 l1 a2 l2) {v : List (List Nat × V)} {y : List DictEntry} (h : VKs c.hf (Im c a1 l1) a1 v y) : VKs c.hf (Im c a2 l2) a2 v y := h.mono x.im fun _ _ => x.ads
inductive OR (c : Cx) (P : Addr → Obj → Prop) (ads : List Addr) : O → Obj → Prop where
  | list {vs : List V} {xs : List Value} {n : Nat} : VRs c.hf P ads vs xs → OR c P ads (.list vs) { cls := .type "list", data := .seq xs.toArray n }
  | dict {kvs : List (List Nat × V)} {es : List DictEntry} {n : Nat} : VKs c.hf P ads kvs es → OR c P ads (.dict kvs) (dictOf es n)
theorem Ext.or {c : Cx} {a1 a2 : List Addr} {l1 l2 : Led} (x : Ext c a1 l1 a2 l2) {v : O} {y : Obj} (h : OR c (Im c a1 l1) a1 v y) : OR c (Im c a2 l2) a2 v y := by
  cases h with
  | list h => exact .list (x.vrs h)
  | dict h => exact .dict (x.vks h)
structure AR (c : Cx) (ads : List Addr) (H : Hp) (led : Led) : Prop where
  nd : ads.Nodup
  len : ads.length = H.length
  ob : ∀ (i : Nat) (o : O), H[i]? = some o → ∃ (a : Addr) (x : Obj), ads[i]? = some a ∧ (a, x) ∈ led ∧ OR c (Im c ads led) ads o x
structure SR (c : Cx) (L : Addr) (mc : Str → Option Value) (led frs : Led) (h : Heap) : Prop where
  fr : Fr c.base L h mc
  nw : News c.base L h (led ++ frs)
  nd : ((led ++ frs).map (·.1)).Nodup
noncomputable def updL (d : Addr) (o' : Obj) (l : Led) : Led := l.map fun p => if p.1 = d then (d, o') else p
theorem updL_keys (d : Addr) (o' : Obj) (l : Led) : (updL d o' l).map (·.1) = l.map (·.1) := by
  unfold updL
  rw [List.map_map]
  apply List.map_congr_left
  intro p _
  show (if p.1 = d then (d, o') else p).1 = p.1
  split
  · rename_i h; exact h.symm
  · rfl
theorem updL_append (d : Addr) (o' : Obj) (l r : Led) : updL d o' (l ++ r) = updL d o' l ++ updL d o' r := by simp [updL]
theorem updL_off {d : Addr} {o' : Obj} {l : Led} (h : d ∉ l.map (·.1)) : updL d o' l = l := by
  unfold updL
  conv => rhs; rw [← List.map_id l]
  apply List.map_congr_left
  intro p hp
  rw [if_neg (fun e : p.1 = d => h (e ▸ List.mem_map_of_mem (f := (·.1)) hp))]; rfl
theorem upd_of {d : Addr} {o o' : Obj} : ∀ {l : Led}, (l.map (·.1)).Nodup → (d, o) ∈ l → Upd d o o' l (updL d o' l)
  | [], _, h => nomatch h
  | p :: r, hn, h => by
    rw [List.map_cons, List.nodup_cons] at hn
    rcases List.mem_cons.mp h with e | h
    · subst e
      have : updL d o' ((d, o) :: r) = (d, o') :: r := by
        show (if d = d then (d, o') else (d, o)) :: updL d o' r = _
        rw [if_pos rfl, updL_off hn.1]
      rw [this]
      exact .head fun q hq (e : q.1 = d) => hn.1 (e ▸ List.mem_map_of_mem (f := (·.1)) hq)
    · have hne : p.1 ≠ d := fun e => hn.1 (e ▸ List.mem_map_of_mem (f := (·.1)) h)
      have : updL d o' (p :: r) = p :: updL d o' r := by
        show (if p.1 = d then (d, o') else p) :: updL d o' r = _
        rw [if_neg hne]
      rw [this]
      exact .tail hne (upd_of hn.2 h)
theorem mem_updL_ne {d : Addr} {o' : Obj} {l : Led} {a : Addr} {o : Obj} (h : (a, o) ∈ l) (hn : a ≠ d) : (a, o) ∈ updL d o' l := by
  unfold updL
  exact List.mem_map.mpr ⟨(a, o), h, by rw [if_neg hn]⟩
theorem mem_updL_eq {d : Addr} {o o' : Obj} {l : Led} (h : (d, o) ∈ l) : (d, o') ∈ updL d o' l := by
  unfold updL
  exact List.mem_map.mpr ⟨(d, o), h, by rw [if_pos rfl]⟩
theorem key_unique : ∀ {l : Led}, (l.map (·.1)).Nodup → ∀ {a : Addr} {o o' : Obj}, (a, o) ∈ l → (a, o') ∈ l → o = o'
  | [], _, _, _, _, h, _ => nomatch h
  | p :: r, hn, a, o, o', h, h' => by
    rw [List.map_cons, List.nodup_cons] at hn
    rcases List.mem_cons.mp h with e | h
    · rcases List.mem_cons.mp h' with e' | h'
      · rw [← e] at e'; exact (Prod.mk.inj e').2.symm
      · exact absurd (by rw [← e]; exact List.mem_map_of_mem (f := (·.1)) h') hn.1
    · rcases List.mem_cons.mp h' with e' | h'
      · exact absurd (by rw [← e']; exact List.mem_map_of_mem (f := (·.1)) h) hn.1
      · exact key_unique hn.2 h h'
section
variable {c : Cx} {L : Addr} {mc : Str → Option Value} {led frs : Led} {h h' : Heap}
theorem SR.grown (x : SR c L mc led frs h) (k : ∀ b o, h.get? b = some o → h'.get? b = some o) : SR c L mc led frs h' := ⟨x.fr.keeps k, x.nw.grown k, x.nd⟩
theorem SR.fresh (x : SR c L mc led frs h) : h.objs.size ∉ (led ++ frs).map (·.1) := fun hm => by
  obtain ⟨p, hp, e⟩ := List.mem_map.mp hm
  have := Heap.lt_size (x.nw p hp).1
  rw [e] at this; exact Nat.lt_irrefl _ this
theorem SR.lt (x : SR c L mc led frs h) {p : Addr × Obj} (hp : p ∈ led) : p.1 < h.objs.size := Heap.lt_size (x.nw p (List.mem_append_left _ hp)).1
theorem SR.alloc (x : SR c L mc led frs h) (o : Obj) (hf : o.isFreed = false := by rfl) : SR c L mc ((h.objs.size, o) :: led) frs (h.push o) :=
  ⟨x.fr.push o, x.nw.push x.fr o hf, by rw [List.cons_append, List.map_cons, List.nodup_cons]; exact ⟨x.fresh, x.nd⟩⟩
theorem SR.of_news {a : Addr} {o : Obj} (x : SR c L mc led frs h) (F : Fr c.base L h' mc) (N : News c.base L h' ((a, o) :: (led ++ frs))) (hn : ∀ p ∈ led ++ frs, p.1 < a) : SR c L mc ((a, o) :: led) frs h' :=
  ⟨F, N, by
    rw [List.cons_append, List.map_cons, List.nodup_cons]
    refine ⟨fun hm => ?_, x.nd⟩
    obtain ⟨p, hp, e⟩ := List.mem_map.mp hm
    have := hn p hp
    rw [e] at this; exact Nat.lt_irrefl _ this⟩
theorem SR.get (x : SR c L mc led frs h) {a : Addr} {o : Obj} (hm : (a, o) ∈ led) : h.get? a = some o := (x.nw _ (List.mem_append_left _ hm)).1
theorem SR.im (x : SR c L mc led frs h) {ads : List Addr} {a : Addr} {o : Obj} (hm : Im c ads led a o) : h.get? a = some o := by
  rcases hm with ⟨hm, _⟩ | hm
  · exact x.get hm
  · exact x.fr.keep _ _ hm
theorem SR.kin (x : SR c L mc led frs h) (k : c.Ok) : c.K.In h := k.kin.keeps x.fr.keep
theorem SR.ndl (x : SR c L mc led frs h) : (led.map (·.1)).Nodup := by
  have := x.nd
  rw [List.map_append, List.nodup_append] at this
  exact this.1
theorem SR.off (x : SR c L mc led frs h) {d : Addr} {o : Obj} (hm : (d, o) ∈ led) : d ∉ frs.map (·.1) := by
  have := x.nd
  rw [List.map_append, List.nodup_append] at this
  exact fun hd => this.2.2 d (List.mem_map_of_mem (f := (·.1)) hm) d hd rfl
theorem SR.upd {d : Addr} {o : Obj} (x : SR c L mc led frs h) (o' : Obj) (hm : (d, o) ∈ led) : Upd d o o' (led ++ frs) (updL d o' led ++ frs) := by
  have := upd_of (o' := o') x.nd (List.mem_append_left frs hm)
  rwa [updL_append, updL_off (x.off hm)] at this
theorem SR.updated {d : Addr} {o' : Obj} (x : SR c L mc led frs h) (F : Fr c.base L h' mc) (N : News c.base L h' (updL d o' led ++ frs)) : SR c L mc (updL d o' led) frs h' :=
  ⟨F, N, by
    have := x.nd
    rw [List.map_append] at this ⊢
    rwa [updL_keys]⟩
theorem SR.store {mc' : Str → Option Value} (x : SR c L mc led frs h) (hn : h'.Ns L mc') (hs : Heap.SameBut L h h') : SR c L mc' led frs h' := ⟨x.fr.set hn hs, x.nw.set hs, x.nd⟩
/-- an update of an object of the ledger -/
theorem SR.update {d : Addr} {o : Obj} (x : SR c L mc led frs h) (hm : (d, o) ∈ led) (f : Obj → Obj) (hf : (f o).isFreed = false) : SR c L mc (updL d (f o) led) frs (h.update d f) := by
  obtain ⟨pre, post, e1, e2, n1, n2⟩ := (x.upd (f o) hm).split
  obtain ⟨F, N⟩ := news_upd (f := f) x.fr (e1 ▸ x.nw) n1 n2 rfl hf
  exact x.updated F (e2 ▸ N)
end
section
variable {c : Cx} {ads : List Addr} {H : Hp} {led : Led}
theorem ext_new {a : Addr} {o : Obj} : Ext c ads led ads ((a, o) :: led) := ⟨⟨[], by simp⟩, fun _ _ h => h.imp (fun q => ⟨List.mem_cons_of_mem _ q.1, q.2⟩) id⟩
theorem ext_newM {a : Addr} {o : Obj} (hn : a ∉ led.map (·.1)) : Ext c ads led (ads ++ [a]) ((a, o) :: led) := ⟨⟨[a], rfl⟩, fun b x h => h.imp (fun q => ⟨List.mem_cons_of_mem _ q.1, fun hm => by
  rcases List.mem_append.mp hm with hm | hm
  · exact q.2 hm
  · rw [List.mem_singleton.mp hm] at q
    exact hn (List.mem_map_of_mem (f := (·.1)) q.1)⟩) id⟩
theorem ext_upd {d : Addr} {o' : Obj} (hd : d ∈ ads) : Ext c ads led ads (updL d o' led) := ⟨⟨[], by simp⟩, fun _ _ h => h.imp (fun q => ⟨mem_updL_ne q.1 fun e => q.2 (e ▸ hd), q.2⟩) id⟩
theorem AR.ext {led' : Led} (x : AR c ads H led) (e : Ext c ads led ads led') (hk : ∀ a o, (a, o) ∈ led → a ∈ ads → (a, o) ∈ led') : AR c ads H led' :=
  ⟨x.nd, x.len, fun i o hi => by
    obtain ⟨a, y, h1, h2, h3⟩ := x.ob i o hi
    exact ⟨a, y, h1, hk _ _ h2 (List.mem_of_getElem? h1), e.or h3⟩⟩
theorem AR.new {a : Addr} {o : Obj} (x : AR c ads H led) : AR c ads H ((a, o) :: led) := x.ext ext_new fun _ _ h _ => List.mem_cons_of_mem _ h
theorem AR.newM {a : Addr} {o : O} {y : Obj} (x : AR c ads H led) (hn : a ∉ led.map (·.1)) (h : OR c (Im c ads led) ads o y) : AR c (ads ++ [a]) (H ++ [o]) ((a, y) :: led) := by
  have E : Ext c ads led (ads ++ [a]) ((a, y) :: led) := ext_newM hn
  have hna : a ∉ ads := fun hm => by
    obtain ⟨i, hi⟩ := List.mem_iff_getElem?.mp hm
    have hl : i < H.length := by rw [← x.len]; exact (List.getElem?_eq_some_iff.mp hi).1
    obtain ⟨b, z, h1, h2, _⟩ := x.ob i H[i] (List.getElem?_eq_getElem hl)
    rw [hi] at h1; cases h1
    exact hn (List.mem_map_of_mem (f := (·.1)) h2)
  refine ⟨?_, by simp [x.len], fun i o' hi => ?_⟩
  · rw [List.nodup_append]
    exact ⟨x.nd, by simp, fun b hb d hd e => by rw [List.mem_singleton.mp hd] at e; exact hna (e ▸ hb)⟩
  · by_cases hl : i < H.length
    · rw [List.getElem?_append_left hl] at hi
      obtain ⟨b, z, h1, h2, h3⟩ := x.ob i o' hi
      exact ⟨b, z, E.ads h1, List.mem_cons_of_mem _ h2, E.or h3⟩
    · have : i = H.length := by
        have := (List.getElem?_eq_some_iff.mp hi).1
        rw [List.length_append, List.length_singleton] at this
        omega
      subst this
      rw [List.getElem?_append_right (Nat.le_refl _)] at hi
      simp at hi; subst hi
      exact ⟨a, y, by rw [← x.len, List.getElem?_append_right (Nat.le_refl _)]; simp, List.mem_cons_self, E.or h⟩
theorem AR.upd {d : Addr} {i : Nat} {o o' : O} {y y' : Obj} (x : AR c ads H led) (hi : H[i]? = some o) (hd : ads[i]? = some d) (hm : (d, y) ∈ led) (h : OR c (Im c ads led) ads o' y') : AR c ads (H.set i o') (updL d y' led) := by
  have hda : d ∈ ads := List.mem_of_getElem? hd
  have E : Ext c ads led ads (updL d y' led) := ext_upd hda
  refine ⟨x.nd, by rw [List.length_set]; exact x.len, fun j q hj => ?_⟩
  by_cases hij : i = j
  · subst hij
    have hl := (List.getElem?_eq_some_iff.mp hi).1
    rw [List.getElem?_set_self hl] at hj
    cases hj
    exact ⟨d, y', hd, mem_updL_eq hm, E.or h⟩
  · rw [List.getElem?_set_ne hij] at hj
    obtain ⟨b, z, h1, h2, h3⟩ := x.ob j q hj
    refine ⟨b, z, h1, mem_updL_ne h2 fun e => hij ?_, E.or h3⟩
    subst e
    have li := (List.getElem?_eq_some_iff.mp hd)
    have lj := (List.getElem?_eq_some_iff.mp h1)
    exact (List.getElem_inj (h₀ := li.1) (h₁ := lj.1) x.nd).mp (li.2.trans lj.2.symm)
end
end
-- A2
section
open PySem PySem.W PyProof.Rows PySem.Calls
inductive Lit where
  | none | bool (b : Bool) | int (i : Int) | str (s : List Nat)
inductive Bop where
  | add | sub | mul | fdiv | mod
inductive Cop where
  | eq | ne | lt | le | gt | ge | isin | notin | is | isnot
mutual
inductive Ex where
  | lit (c : Lit)
  | neg (i : Int)
  | loc (i : Nat)
  | glo (k : Nat)
  | attr (e : Ex) (f : List Nat)
  | call (f : Nat) (as : Exs)
  | meth (e : Ex) (f : Nat) (as : Exs)
  | new (f : Nat) (as : Exs)
  | len (e : Ex)
  | chr (e : Ex)
  | ord (e : Ex)
  | max2 (a b : Ex)
  | min2 (a b : Ex)
  | lower (e : Ex)
  | index (e a : Ex)
  | join (e a : Ex)
  | dget (e a : Ex)
  | append (e a : Ex)
  | bin (op : Bop) (a b : Ex)
  | pow (a b : Nat)
  | cmp (op : Cop) (a b : Ex)
  | cmp2 (o1 o2 : Cop) (a b c : Ex)
  | band (a b : Ex)
  | bor (a b : Ex)
  | not (a : Ex)
  | ite (t a b : Ex)
  | idx (a i : Ex)
  | slice (e a b : Ex)
  | tup (es : Exs)
  | lst (es : Exs)
  | mlst (es : Exs)
  | dct (ks : List (List Nat)) (es : Exs)
  | mdct (ks : List (List Nat)) (es : Exs)
  | comp (elt src : Ex)
inductive Exs where
  | nil
  | cons (e : Ex) (es : Exs)
end
inductive Tg where
  | loc (i : Nat)
  | sub (o k : Ex)
mutual
inductive Sx where
  | asg (i : Nat) (e : Ex)
  | asgU (ts : List Tg) (e : Ex)
  | asgW (ts : List Nat) (e : Ex)
  | setattr (o : Ex) (f : List Nat) (e : Ex)
  | augattr (o : Ex) (f : List Nat) (e : Ex)
  | augloc (i : Nat) (e : Ex)
  | setidx (o k e : Ex)
  | ife (t : Ex) (a b : Sxs)
  | whl (t : Ex) (b : Sxs)
  | fors (i : Nat) (e : Ex) (b : Sxs)
  | forR (i : Nat) (e : Ex) (b : Sxs)
  | forT (is : List Nat) (e : Ex) (b : Sxs)
  | ret (e : Ex)
  | raise (m p : Ex)
  | expr (e : Ex)
  | tryPlace (e : Ex)
inductive Sxs where
  | nil
  | cons (s : Sx) (ss : Sxs)
end
inductive Rs (α : Type) where
  | ok (a : α) (H : Hp)
  | exc (p : V) (H : Hp)
  | stuck
noncomputable def Rs.bind {α β : Type} : Rs α → (α → Hp → Rs β) → Rs β
  | .ok a H, f => f a H
  | .exc p H, _ => .exc p H
  | .stuck, _ => .stuck
/-- .. where nothing may be raised -/
noncomputable def Rs.only {α β : Type} : Rs α → (α → Hp → Rs β) → Rs β
  | .ok a H, f => f a H
  | _, _ => .stuck
noncomputable abbrev Rs.of {α : Type} (o : Option α) (H : Hp) : Rs α := match o with
  | some a => .ok a H
  | none => .stuck
/-- no text, list longer than this -/
noncomputable def big : Nat := 1000000
noncomputable def litV : Lit → V
  | .none => .none
  | .bool b => .bool b
  | .int i => .int i
  | .str s => .str s
noncomputable def kvGet (kvs : List (List Nat × V)) (k : List Nat) : Option V := (kvs.find? fun p => p.1 == k).map (·.2)
noncomputable def kvSet : List (List Nat × V) → List Nat → V → List (List Nat × V)
  | [], k, v => [(k, v)]
  | p :: r, k, v => if p.1 = k then (k, v) :: r else p :: kvSet r k v
/-- a number's case, a text's, ..; nothing else has an answer -/
noncomputable def asI {α : Type} (f : Int → Option α) : V → Option α
  | .int i => f i
  | _ => none
noncomputable def asS {α : Type} (f : List Nat → Option α) : V → Option α
  | .str i => f i
  | _ => none
noncomputable def asT {α : Type} (f : List V → Option α) : V → Option α
  | .tup i => f i
  | _ => none
noncomputable def asL {α : Type} (f : List V → Option α) : V → Option α
  | .lst i => f i
  | _ => none
noncomputable def listO {α : Type} (f : List V → Option α) : Option O → Option α
  | some (.list i) => f i
  | _ => none
noncomputable def dictO {α : Type} (f : List (List Nat × V) → Option α) : Option O → Option α
  | some (.dict i) => f i
  | _ => none
noncomputable def addV : V → V → Option V
  | .int i => asI fun j => some (.int (i + j))
  | .str s => asS fun t => if s.length + t.length ≤ big then some (.str (s ++ t)) else none
  | .tup s => asT fun t => if s.length + t.length ≤ big then some (.tup (s ++ t)) else none
  | _ => fun _ => none
noncomputable def binV : Bop → V → V → Option V
  | .add => addV
  | .sub => fun v w => asI (fun i => asI (fun j => some (.int (i - j))) w) v
  | .mul => fun v w => asI (fun i => asI (fun j => if i.natAbs < 4294967296 ∨ j.natAbs < 4294967296 then some (.int (i * j)) else none) w) v
  | .fdiv => fun v w => asI (fun i => asI (fun j => if 0 < j ∧ j < 1073741824 then some (.int (i.fdiv j)) else none) w) v
  | .mod => fun v w => asI (fun i => asI (fun j => if j = 0 then none else some (.int (i.fmod j))) w) v
noncomputable def iaddV (v w : V) : Option V := asI (fun i => asI (fun j => some (.int (i + j))) w) v
noncomputable def lenV (H : Hp) : V → Option Nat
  | .str s => some s.length
  | .tup vs => some vs.length
  | .lst vs => some vs.length
  | .obj i => match H[i]? with
    | some (.list vs) => some vs.length
    | _ => none
  | _ => none
mutual
/-- one datum twice -/
noncomputable def same : V → V → Bool
  | .none, .none => true
  | .bool a, .bool b => a == b
  | .int a, .int b => a == b
  | .str a, .str b => a == b
  | .tup a, .tup b => sames a b
  | .lst a, .lst b => sames a b
  | _, _ => false
noncomputable def sames : List V → List V → Bool
  | [], [] => true
  | a :: r, b :: q => same a b && sames r q
  | _, _ => false
end
noncomputable def isStrs (l : List Nat) : Bool := l.all (· < 1114112)
noncomputable def flat (f : List V → Bool) : V → Bool
  | .none => true
  | .bool _ => true
  | .int _ => true
  | .str s => isStrs s
  | .tup vs => f vs
  | .lst vs => f vs
  | _ => false
noncomputable def plains : Nat → List V → Bool
  | 0, _ => false
  | k + 1, vs => vs.all (flat (plains k))
/-- plain data at most k deep -/
noncomputable def plain (k : Nat) : V → Bool := flat (plains k)
/-- lists behind their numbers -/
noncomputable def openO (i : Nat) : Option O → V
  | some (.list vs) => .lst vs
  | _ => .obj i
noncomputable def opened (H : Hp) : V → V
  | .obj i => openO i H[i]?
  | v => v
noncomputable def eqD (H : Hp) (v w : V) : Option Bool := if plain 3 (opened H v) && same (opened H v) (opened H w) then some true else none
noncomputable def eqO (H : Hp) (i : Nat) : List V → Option Bool
  | [] => listO (fun vs => some vs.isEmpty) H[i]?
  | v :: vs => eqD H (.obj i) (.lst (v :: vs))
noncomputable def eqV (H : Hp) : V → V → Option Bool
  | .int a => asI fun b => some (a == b)
  | .str a => asS fun b => some (a == b)
  | .obj i => asL (eqO H i)
  | .lst a => eqD H (.lst a)
  | .tup a => eqD H (.tup a)
  | _ => fun _ => none
noncomputable def neO (H : Hp) (i : Nat) : List V → Option Bool
  | [] => listO (fun vs => if vs.all (plain 3) then some (!vs.isEmpty) else none) H[i]?
  | v :: vs => (eqD H (.obj i) (.lst (v :: vs))).map (!·)
noncomputable def neV (H : Hp) : V → V → Option Bool
  | .obj i => asL (neO H i)
  | .int a => asI fun b => some (!(a == b))
  | .str a => asS fun b => some (!(a == b))
  | v => fun w => (eqV H v w).map (!·)
/-- is the text y in the text x (one sign or none) -/
noncomputable def inStr (y x : List Nat) : Option Bool := match y with
  | [] => some true
  | [c] => some (x.contains c)
  | _ => none
noncomputable def strsOf : List V → Option (List (List Nat))
  | [] => some []
  | .str s :: r => (strsOf r).map (s :: ·)
  | _ :: _ => none
noncomputable def inW (y : List Nat) : V → Option Bool
  | .str x => inStr y x
  | .tup vs => (strsOf vs).map fun l => l.contains y
  | .dct kvs => some (kvGet kvs y).isSome
  | _ => none
noncomputable def inV (v w : V) : Option Bool := asS (fun y => inW y w) v
noncomputable def isNone : V → Option Bool
  | .none => some true
  | .glob _ => none
  | _ => some false
noncomputable def strLe : List Nat → List Nat → Bool
  | [], _ => true
  | _ :: _, [] => false
  | a :: r, b :: q => if a < b then true else if b < a then false else strLe r q
noncomputable def leV : V → V → Option Bool
  | .int a => asI fun b => some (decide (a ≤ b))
  | .str a => asS fun b => some (strLe a b)
  | _ => fun _ => none
noncomputable def asN (o : Option Bool) : V → Option Bool
  | .none => o
  | _ => none
noncomputable def cmpV (H : Hp) : Cop → V → V → Option Bool
  | .eq => eqV H
  | .ne => neV H
  | .lt => fun v w => asI (fun a => asI (fun b => some (decide (a < b))) w) v
  | .le => leV
  | .gt => fun v w => asI (fun a => asI (fun b => some (decide (a > b))) w) v
  | .ge => fun v w => asI (fun a => asI (fun b => some (decide (a ≥ b))) w) v
  | .isin => inV
  | .notin => fun a b => (inV a b).map (!·)
  | .is => fun a => asN (isNone a)
  | .isnot => fun a => asN ((isNone a).map (!·))
noncomputable def truth : V → Option Bool
  | .bool b => some b
  | _ => none
noncomputable def seqAt (vs : List V) (i : Int) : Option V := if vs.length ≤ big then (if 0 ≤ i then vs[i.toNat]? else if 0 ≤ i + vs.length then vs[(i + vs.length).toNat]? else none) else none
noncomputable def idxO : Option O → V → Option V
  | some (.list vs) => asI (seqAt vs)
  | some (.dict kvs) => asS (kvGet kvs)
  | none => fun _ => none
noncomputable def idxV (H : Hp) : V → V → Option V
  | .str s => asI fun i => if 0 ≤ i ∧ s.length ≤ big then (s[i.toNat]?).map fun c => .str [c] else none
  | .tup vs => asI (seqAt vs)
  | .lst vs => asI (seqAt vs)
  | .dct kvs => asS (kvGet kvs)
  | .obj n => idxO H[n]?
  | _ => fun _ => none
noncomputable def sliceV (v w u : V) : Option V := asS (fun s => asI (fun a => asI (fun b => if 0 ≤ a ∧ a ≤ b ∧ s.length ≤ big then some (.str ((s.take b.toNat).drop a.toNat)) else none) u) w) v
/-- of a function's number: the class that it makes or belongs to, the name as a method; whether a class's own name of an attribute stands free -/
structure Sig where
  cls : Nat → Option Addr
  mname : Nat → Option (List Nat)
  own : Addr → List Nat → Bool
noncomputable def noGlob : V → Bool
  | .glob _ => false
  | _ => true
noncomputable def attrV (sg : Sig) (H : Hp) (f : List Nat) : V → Option V
  | .inst C i => if sg.own C f then match H[i]? with
    | some (.dict kvs) => (kvGet kvs f).bind fun v => if noGlob v then some v else none
    | _ => none
    else none
  | _ => none
noncomputable def lowerC (c : Nat) : Nat := if 65 ≤ c ∧ c ≤ 90 then c + 32 else c
noncomputable def lowerV : V → Option V
  | .str s => if s.all (· < 128) then (if s.length ≤ big then some (.str (s.map lowerC)) else none) else none
  | _ => none
noncomputable def hexes : List Nat := [48, 49, 50, 51, 52, 53, 54, 55, 56, 57, 97, 98, 99, 100, 101, 102]
noncomputable def indexV : V → V → Option V
  | .str s, .str [c] => if s = hexes then (hexes.idxOf? c).map fun i => .int i else none
  | _, _ => none
noncomputable def joinL (sep : List Nat) : List (List Nat) → List Nat
  | [] => []
  | [x] => x
  | x :: r => x ++ sep ++ joinL sep r
noncomputable def joinV (H : Hp) : V → V → Option V
  | .str sep, .obj i => match H[i]? with
    | some (.list vs) => (strsOf vs).bind fun l => if (l.map fun x => x.length + sep.length).sum ≤ big then some (.str (joinL sep l)) else none
    | _ => none
  | _, _ => none
noncomputable def chrV : V → Option V
  | .int i => if 0 ≤ i ∧ i ≤ 1114111 then some (.str [i.toNat]) else none
  | _ => none
noncomputable def ordV : V → Option V
  | .str [c] => some (.int c)
  | _ => none
noncomputable def dgetV : V → V → Option V
  | .dct kvs, .str k => some ((kvGet kvs k).getD .none)
  | _, _ => none
noncomputable def appendV (H : Hp) (a v : V) : Rs V := match a with
  | .obj i => match H[i]? with
    | some (.list vs) => if vs.length < big then .ok .none (H.set i (.list (vs ++ [v]))) else .stuck
    | _ => .stuck
  | _ => .stuck
noncomputable def setAttrV (sg : Sig) (H : Hp) (o : V) (f : List Nat) (v : V) : Option Hp := match o with
  | .inst C i => if sg.own C f then match H[i]? with
    | some (.dict kvs) => if kvs.length < 100 then some (H.set i (.dict (kvSet kvs f v))) else none
    | _ => none
    else none
  | _ => none
noncomputable def setIdxV (H : Hp) (o k v : V) : Option Hp := match o, k with
  | .obj i, .str f => match H[i]? with
    | some (.dict kvs) => if (kvGet kvs f).isSome ∧ (kvs.map (·.1)).Nodup ∧ kvs.length ≤ big then some (H.set i (.dict (kvSet kvs f v))) else none
    | _ => none
  | .obj i, .int j => match H[i]? with
    | some (.list vs) => if 0 ≤ j ∧ j < vs.length ∧ vs.length ≤ big then some (H.set i (.list (vs.set j.toNat v))) else none
    | _ => none
  | _, _ => none
noncomputable def itemsV (H : Hp) : V → Option (List V)
  | .lst vs => some vs
  | .obj i => listO some H[i]?
  | _ => none
noncomputable def itemsF : V → Option (List V)
  | .str s => if s.length ≤ big then some (s.map fun c => .str [c]) else none
  | .tup vs => if vs.length ≤ big then some vs else none
  | .lst vs => if vs.length ≤ big then some vs else none
  | _ => none
noncomputable def isStrV : V → Bool
  | .str _ => true
  | _ => false
noncomputable def isDctV : V → Bool
  | .dct _ => true
  | _ => false
noncomputable def isListV (H : Hp) : V → Bool
  | .obj i => match H[i]? with
    | some (.list _) => true
    | _ => false
  | _ => false
noncomputable abbrev Fns := Nat → List V → Hp → Rs V
/-- a comprehension's turns: what stands at the next place of the source now -/
noncomputable def compR (f : V → Hp → Rs V) (v : V) : Nat → Nat → Hp → Rs (List V)
  | 0, _, _ => .stuck
  | k + 1, i, H => match itemsV H v with
    | some vs => match vs[i]? with
      | some x => (f x H).only fun b H1 => (compR f v k (i + 1) H1).only fun bs H2 => .ok (b :: bs) H2
      | none => .ok [] H
    | none => .stuck
section
variable (F : Fns) (G : Nat → Option V) (sg : Sig)
mutual
noncomputable def evalE : Ex → Loc → Hp → Rs V
  | .lit c, _, H => .ok (litV c) H
  | .neg i, _, H => .ok (.int (-i)) H
  | .loc i, m, H => Rs.of (m[i]?.join) H
  | .glo k, _, H => Rs.of (G k) H
  | .attr e f, m, H => (evalE e m H).bind fun v H1 => Rs.of (attrV sg H1 f v) H1
  | .call f as, m, H => (evalEs as m H).bind fun vs H1 => F f vs H1
  | .meth e f as, m, H => (evalE e m H).bind fun v H1 => match v with
    | .inst c i => match sg.cls f, sg.mname f, H1[i]? with
      | some c', some n, some (.dict kvs) => if c = c' ∧ kvGet kvs n = none then (evalEs as m H1).bind fun vs H2 => F f (.inst c i :: vs) H2 else .stuck
      | _, _, _ => .stuck
    | _ => .stuck
  | .new f as, m, H => (evalEs as m H).bind fun vs H1 => match sg.cls f with
    | some c => match F f (.inst c H1.length :: vs) (H1 ++ [.dict []]) with
      | .ok .none H2 => .ok (.inst c H1.length) H2
      | _ => .stuck
    | none => .stuck
  | .len e, m, H => (evalE e m H).bind fun v H1 => Rs.of (((lenV H1 v).bind fun k => if k ≤ big then some (V.int k) else none)) H1
  | .chr e, m, H => (evalE e m H).bind fun v H1 => Rs.of (chrV v) H1
  | .ord e, m, H => (evalE e m H).bind fun v H1 => Rs.of (ordV v) H1
  | .max2 a b, m, H => (evalE a m H).bind fun v H1 => (evalE b m H1).bind fun w H2 => match v, w with
    | .int i, .int j => .ok (.int (if j > i then j else i)) H2
    | _, _ => .stuck
  | .min2 a b, m, H => (evalE a m H).bind fun v H1 => (evalE b m H1).bind fun w H2 => match v, w with
    | .int i, .int j => .ok (.int (if j < i then j else i)) H2
    | _, _ => .stuck
  | .lower e, m, H => (evalE e m H).bind fun v H1 => Rs.of (lowerV v) H1
  | .index e a, m, H => (evalE e m H).bind fun v H1 => if isStrV v then (evalE a m H1).bind fun w H2 => Rs.of (indexV v w) H2 else .stuck
  | .join e a, m, H => (evalE e m H).bind fun v H1 => if isStrV v then (evalE a m H1).bind fun w H2 => Rs.of (joinV H2 v w) H2 else .stuck
  | .dget e a, m, H => (evalE e m H).bind fun v H1 => if isDctV v then (evalE a m H1).bind fun w H2 => Rs.of (dgetV v w) H2 else .stuck
  | .append e a, m, H => (evalE e m H).bind fun v H1 => if isListV H1 v then (evalE a m H1).bind fun w H2 => appendV H2 v w else .stuck
  | .bin op a b, m, H => (evalE a m H).bind fun v H1 => (evalE b m H1).bind fun w H2 => Rs.of (binV op v w) H2
  | .pow a b, _, H => if a < 1000 ∧ b < 100 then .ok (.int ((a : Int) ^ b)) H else .stuck
  | .cmp op a b, m, H => (evalE a m H).bind fun v H1 => (evalE b m H1).bind fun w H2 => Rs.of ((cmpV H2 op v w).map .bool) H2
  | .cmp2 o1 o2 a b c, m, H => (evalE a m H).bind fun v H1 => (evalE b m H1).bind fun w H2 => match cmpV H2 o1 v w with
    | some true => (evalE c m H2).bind fun z H3 => Rs.of ((cmpV H3 o2 w z).map .bool) H3
    | some false => .ok (.bool false) H2
    | none => .stuck
  | .band a b, m, H => (evalE a m H).bind fun v H1 => match truth v with
    | some true => evalE b m H1
    | some false => .ok v H1
    | none => .stuck
  | .bor a b, m, H => (evalE a m H).bind fun v H1 => match truth v with
    | some true => .ok v H1
    | some false => evalE b m H1
    | none => .stuck
  | .not a, m, H => (evalE a m H).bind fun v H1 => Rs.of ((truth v).map fun b => .bool (!b)) H1
  | .ite t a b, m, H => (evalE t m H).bind fun v H1 => match truth v with
    | some true => evalE a m H1
    | some false => evalE b m H1
    | none => .stuck
  | .idx a i, m, H => (evalE a m H).bind fun v H1 => (evalE i m H1).bind fun w H2 => Rs.of (idxV H2 v w) H2
  | .slice e a b, m, H => (evalE e m H).bind fun v H1 => (evalE a m H1).bind fun x H2 => (evalE b m H2).bind fun y H3 => Rs.of (sliceV v x y) H3
  | .tup es, m, H => (evalEs es m H).bind fun vs H1 => .ok (.tup vs) H1
  | .lst es, m, H => (evalEs es m H).bind fun vs H1 => .ok (.lst vs) H1
  | .mlst es, m, H => (evalEs es m H).bind fun vs H1 => .ok (.obj H1.length) (H1 ++ [.list vs])
  | .dct ks es, m, H => (evalEs es m H).only fun vs H1 => .ok (.dct (ks.zip vs)) H1
  | .mdct ks es, m, H => (evalEs es m H).only fun vs H1 => .ok (.obj H1.length) (H1 ++ [.dict (ks.zip vs)])
  | .comp elt src, m, H => (evalE src m H).bind fun v H1 => match itemsV H1 v with
    | some vs => if vs.length ≤ big then (compR (fun x H2 => evalE elt [some x] H2) v (vs.length + 1) 0 H1).only fun rs H2 => .ok (.lst rs) H2 else .stuck
    | none => .stuck
noncomputable def evalEs : Exs → Loc → Hp → Rs (List V)
  | .nil, _, H => .ok [] H
  | .cons e es, m, H => (evalE e m H).bind fun v H1 => (evalEs es m H1).bind fun vs H2 => .ok (v :: vs) H2
end
end
/-- the end of a statement -/
inductive Z where
  | next (m : Loc) (H : Hp)
  | ret (v : V) (H : Hp)
  | exc (p : V) (H : Hp)
  | stuck
noncomputable def Z.then : Z → (Loc → Hp → Z) → Z
  | .next m H, f => f m H
  | .ret v H, _ => .ret v H
  | .exc p H, _ => .exc p H
  | .stuck, _ => .stuck
noncomputable def Rs.q {α : Type} : Rs α → (α → Hp → Z) → Z
  | .ok a H, f => f a H
  | .exc p H, _ => .exc p H
  | .stuck, _ => .stuck
noncomputable def setL (m : Loc) (i : Nat) (v : V) : Loc := m.set i (some v)
noncomputable def setLs (m : Loc) : List Nat → List V → Loc
  | i :: is, v :: vs => setLs (setL m i v) is vs
  | _, _ => m
noncomputable def loopW (test : Loc → Hp → Rs V) (body : Loc → Hp → Z) : Nat → Loc → Hp → Z
  | 0, _, _ => .stuck
  | k + 1, m, H => (test m H).q fun v H1 => match truth v with
    | some true => (body m H1).then fun m2 H2 => loopW test body k m2 H2
    | some false => .next m H1
    | none => .stuck
noncomputable def loopF (bind : Loc → V → Option Loc) (body : Loc → Hp → Z) : List V → Loc → Hp → Z
  | [], m, H => .next m H
  | v :: vs, m, H => match bind m v with
    | some m1 => (body m1 H).then fun m2 H2 => loopF bind body vs m2 H2
    | none => .stuck
noncomputable def bindT (is : List Nat) (m : Loc) (v : V) : Option Loc := match v with
  | .tup vs => if vs.length = is.length then some (setLs m is vs) else none
  | _ => none
section
variable (F : Fns) (G : Nat → Option V) (sg : Sig) (W : Nat)
noncomputable def storeT : List Tg → List V → Loc → Hp → Z
  | .loc i :: ts, v :: vs, m, H => storeT ts vs (setL m i v) H
  | .sub o k :: ts, v :: vs, m, H => (evalE F G sg o m H).q fun ov H1 => (evalE F G sg k m H1).q fun kv H2 => match setIdxV H2 ov kv v with
    | some H3 => storeT ts vs m H3
    | none => .stuck
  | [], [], m, H => .next m H
  | _, _, _, _ => .stuck
mutual
noncomputable def execS : Sx → Loc → Hp → Z
  | .asg i e, m, H => (evalE F G sg e m H).q fun v H1 => .next (setL m i v) H1
  | .asgU ts e, m, H => (evalE F G sg e m H).q fun v H1 => match v with
    | .tup vs => if vs.length = ts.length then storeT F G sg ts vs m H1 else .stuck
    | _ => .stuck
  | .asgW is e, m, H => (evalE F G sg e m H).q fun v H1 => match v with
    | .tup vs => if vs.length = is.length then .next (setLs m is.reverse vs.reverse) H1 else .stuck
    | _ => .stuck
  | .setattr o f e, m, H => (evalE F G sg e m H).q fun v H1 => (evalE F G sg o m H1).q fun ov H2 => match setAttrV sg H2 ov f v with
    | some H3 => .next m H3
    | none => .stuck
  | .augattr o f e, m, H => (evalE F G sg o m H).q fun ov H1 => (Rs.of (attrV sg H1 f ov) H1).q fun x H1' => (evalE F G sg e m H1').q fun y H2 => (Rs.of (iaddV x y) H2).q fun v H2' => match setAttrV sg H2' ov f v with
    | some H3 => .next m H3
    | none => .stuck
  | .augloc i e, m, H => (Rs.of (m[i]?.join) H).q fun x H1 => (evalE F G sg e m H1).q fun y H2 => (Rs.of (iaddV x y) H2).q fun v H3 => .next (setL m i v) H3
  | .setidx o k e, m, H => (evalE F G sg e m H).q fun v H1 => (evalE F G sg o m H1).q fun ov H2 => (evalE F G sg k m H2).q fun kv H3 => match setIdxV H3 ov kv v with
    | some H4 => .next m H4
    | none => .stuck
  | .ife t a b, m, H => (evalE F G sg t m H).q fun v H1 => match truth v with
    | some true => execSs a m H1
    | some false => execSs b m H1
    | none => .stuck
  | .whl t b, m, H => loopW (evalE F G sg t) (fun m H => execSs b m H) W m H
  | .fors i e b, m, H => (evalE F G sg e m H).q fun v H1 => match itemsF v with
    | some vs => loopF (fun m v => some (setL m i v)) (fun m H => execSs b m H) vs m H1
    | none => .stuck
  | .forR i e b, m, H => (evalE F G sg e m H).q fun v H1 => match v with
    | .int n => if 0 ≤ n ∧ n ≤ big then loopF (fun m v => some (setL m i v)) (fun m H => execSs b m H) ((List.range n.toNat).map fun (k : Nat) => .int k) m H1 else .stuck
    | _ => .stuck
  | .forT is e b, m, H => (evalE F G sg e m H).q fun v H1 => match v with
    | .tup vs => if vs.length ≤ big then loopF (bindT is) (fun m H => execSs b m H) vs m H1 else .stuck
    | _ => .stuck
  | .ret e, m, H => (evalE F G sg e m H).q fun v H1 => .ret v H1
  | .raise a b, m, H => (evalE F G sg a m H).q fun _ H1 => (evalE F G sg b m H1).q fun p H2 => .exc p H2
  | .expr e, m, H => (evalE F G sg e m H).q fun _ H1 => .next m H1
  | .tryPlace e, m, H => match evalE F G sg e m H with
    | .ok v H1 => .ret v H1
    | .exc p H1 => if noGlob p then .ret p H1 else .stuck
    | .stuck => .stuck
noncomputable def execSs : Sxs → Loc → Hp → Z
  | .nil, m, H => .next m H
  | .cons s ss, m, H => (execS s m H).then fun m1 H1 => execSs ss m1 H1
end
end
structure Fn where
  addr : Addr
  nm : List Str
  np : Nat
  dfl : List V
  body : Sxs
noncomputable def startL (fn : Fn) (vs : List V) : Option Loc :=
  if vs.length ≤ fn.np ∧ fn.np ≤ vs.length + fn.dfl.length then
    some ((vs ++ fn.dfl.drop (fn.dfl.length + vs.length - fn.np)).map some ++ List.replicate (fn.nm.length - fn.np) none)
  else none
noncomputable def callF (FT : Nat → Option Fn) (G : Nat → Option V) (sg : Sig) (W : Nat) : Nat → Fns
  | 0 => fun _ _ _ => .stuck
  | n + 1 => fun f vs H => if n = 0 then .stuck else match FT f with
    | some fn => match startL fn vs with
      | some m => match execSs (callF FT G sg W n) G sg W fn.body m H with
        | .next _ H1 => .ok .none H1
        | .ret v H1 => .ok v H1
        | .exc p H1 => .exc p H1
        | .stuck => .stuck
      | none => .stuck
    | none => .stuck
end
-- A3
section
open PySem PySem.W PyProof.Rows PySem.Calls
/-- what stands fast -/
structure Sta where
  c : Cx
  WE : Addr
  G : Nat → Option V
  gnm : Nat → Option Str
  sg : Sig
  fnm : Nat → Option Str
  fadr : Nat → Option Addr
  soft : Nat → Bool
  cnm : Nat → Option Str
  wnm : Str
noncomputable abbrev Sta.M (S : Sta) : Model := model S.c.prog S.c.w
/-- what is known of the names of a block -/
structure Ck where
  sc : Scope
  nm : List Str
  top : Bool
  soft : Bool
noncomputable abbrev Ck.low (c : Ck) : Ck := { c with top := false }
/-- no frame's object -/
noncomputable def noFrame (o : Obj) : Prop := ∀ es ep, o.data ≠ .dict es ep
structure EnvOk (env : Env) (L : Addr) (sco : Scope) : Prop where
  sc : env.scope = sco
  kind : sco.kind = .function
  loc : env.locals = L
  gl : env.globals = mainGlobals
  bl : env.builtins = builtinsNs
noncomputable def StkOk (L : Addr) (frs : Led) (stk : List Env) : Prop :=
  ∀ e ∈ stk, e.scope.kind ≠ .module ∧ ∃ L', e.frame = some L' ∧ (L' = L ∨ ∃ o, (L', o) ∈ frs ∧ ∃ es ep, o.data = .dict es ep)
noncomputable def LR (c : Cx) (nm : List Str) (m : Loc) (mc : Str → Option Value) (ads : List Addr) (led : Led) : Prop :=
  ∀ (i : Nat) (v : V), m[i]? = some (some v) → ∃ x y, nm[i]? = some x ∧ mc x = some y ∧ VR c.hf (Im c ads led) ads v y
structure Here (S : Sta) (n : Nat) (ck : Ck) (A : Around) (stk : List Env) (env : Env) (L : Addr) (mc : Str → Option Value) (led frs : Led) (ads : List Addr) (m : Loc) (H : Hp) (s : Shared) : Prop where
  env : EnvOk env L ck.sc
  sr : SR S.c L mc led frs s.heap
  ar : AR S.c ads H led
  lr : LR S.c ck.nm m mc ads led
  fra : A.frames = some stk
  stk : StkOk L frs stk
  hd : A.handled = none
  room : A.depth + 3 * n + 10 < recursionLimit
  units : A.units + 40 * n + 100 < cLine
  tp : ck.top = true → ∀ p ∈ frs, noFrame p.2
theorem Here.step {S : Sta} {n : Nat} {ck : Ck} {A : Around} {stk : List Env} {env : Env} {L : Addr} {mc : Str → Option Value} {led frs : Led} {ads : List Addr} {m : Loc} {H : Hp} {s : Shared}
    (h : Here S n ck A stk env L mc led frs ads m H s) {h' : Heap} {tk' : Nat} {ads' : List Addr} {led' : Led} {H' : Hp} (sr : SR S.c L mc led' frs h') (ar : AR S.c ads' H' led') (e : Ext S.c ads led ads' led') :
    Here S n ck A stk env L mc led' frs ads' m H' { s with heap := h', toks := tk' } :=
  ⟨h.env, sr, ar, fun i v hv => by
    obtain ⟨x, y, h1, h2, h3⟩ := h.lr i v hv
    exact ⟨x, y, h1, h2, e.vr h3⟩, h.fra, h.stk, h.hd, h.room, h.units, h.tp⟩
/-- frames' objects, their slots aside -/
inductive SlotUp : Led → Led → Prop where
  | nil : SlotUp [] []
  | cons {a : Addr} {o : Obj} {sl : Array (Option Value)} {r r' : Led} : (sl = o.slots ∨ ¬ noFrame o) → SlotUp r r' → SlotUp ((a, o) :: r) ((a, { o with slots := sl }) :: r')
theorem SlotUp.refl : ∀ (frs : Led), SlotUp frs frs
  | [] => .nil
  | (_, ⟨_, _, _, _⟩) :: r => .cons (.inl rfl) (SlotUp.refl r)
theorem SlotUp.trans : ∀ {a b c : Led}, SlotUp a b → SlotUp b c → SlotUp a c
  | _, _, _, .nil, .nil => .nil
  | _, _, _, .cons h1 r1, .cons h2 r2 => .cons (h2.elim (fun e => e ▸ h1) .inr) (SlotUp.trans r1 r2)
theorem SlotUp.same : ∀ {a b : Led}, SlotUp a b → (∀ p ∈ a, noFrame p.2) → b = a
  | _, _, .nil, _ => rfl
  | _, _, .cons (o := ⟨_, _, _, _⟩) h1 r1, hn => by
    rcases h1 with rfl | h1
    · rw [r1.same fun p hp => hn p (List.mem_cons_of_mem _ hp)]
    · exact absurd (hn _ List.mem_cons_self) h1
/-- an exception's traceback hangs on it, its third field x -/
inductive On (base : Heap) (L : Addr) (ks : List Addr) (h : Heap) (e : Addr) (x : Value) (vs : Array Value) : Prop where
  | mk (T : Addr) (oT : Obj) (ts : Array Value) (t1 : vs[1]? = some (.ref T)) (t2 : h.get? T = some oT) (t3 : oT.data = .fields ts) (t4 : ts[3]? = some x) (t5 : T ≠ e) (t6 : T ≠ L) (t7 : T ∉ ks) (t8 : base.get? T = none) : On base L ks h e x vs
inductive FObj (S : Sta) (ads : List Addr) (led : Led) (h : Heap) (p : V) (e : Addr) (X : Array Value → Prop) : Prop where
  | mk (oe : Obj) (vs : Array Value) (de : Addr) (es : List DictEntry) (n : Nat) (pv : Value) (g1 : h.get? e = some oe) (g2 : oe.cls = .ref S.WE) (g3 : oe.dict = some de) (g4 : oe.data = .fields vs) (g5 : X vs)
    (g6 : (de, dictOf es n) ∈ led ∧ de ∉ ads ∧ getL "place" es = some (some pv) ∧ VR S.c.hf (Im S.c ads led) ads p pv) : FObj S ads led h p e X
structure FliesG (S : Sta) (L : Addr) (ads : List Addr) (led frs : Led) (h : Heap) (p : V) (e : Addr) (X : Array Value → Prop) : Prop where
  obj : FObj S ads led h p e X
  notL : e ≠ L
  off : e ∉ (led ++ frs).map (·.1)
  new : S.c.base.get? e = none
noncomputable abbrev Flies (S : Sta) (L : Addr) (ads : List Addr) (led frs : Led) (h : Heap) (p : V) (e : Addr) (fl : Option Addr) : Prop :=
  FliesG S L ads led frs h p e fun vs => vs[1]? = some .none ∨ ∃ x, On S.c.base L ((led ++ frs).map (·.1)) h e x vs ∧ (x = .none ∨ ∃ f, fl = some f ∧ x = rawInt f)
noncomputable abbrev Noted (S : Sta) (L : Addr) (ads : List Addr) (led frs : Led) (h : Heap) (p : V) (e : Addr) (x : Value) : Prop :=
  FliesG S L ads led frs h p e fun vs => On S.c.base L ((led ++ frs).map (·.1)) h e x vs
noncomputable def ECont (S : Sta) (L : Addr) (mc : Str → Option Value) (frs : Led) (ads : List Addr) (led : Led) (s : Shared) (Qp Ep : Value → Shared → Prop) : Rs V → Prop
  | .ok v H' => ∀ x h' tk' ads' led', SR S.c L mc led' frs h' → AR S.c ads' H' led' → Ext S.c ads led ads' led' → VR S.c.hf (Im S.c ads' led') ads' v x → Qp x { s with heap := h', toks := tk' }
  | .exc p H' => ∀ e h' tk' ads' led' frs', SlotUp frs frs' → SR S.c L mc led' frs' h' → AR S.c ads' H' led' → Ext S.c ads led ads' led' → Flies S L ads' led' frs' h' p e none → Ep (.ref e) { s with heap := h', toks := tk' }
  | .stuck => False
section
variable {S : Sta} {L : Addr} {mc : Str → Option Value} {frs : Led} {ads ads1 : List Addr} {led led1 : Led} {s : Shared} {Qp Qp' Ep : Value → Shared → Prop} {h1 : Heap} {t1 : Nat}
theorem ECont.step {r : Rs V} (k : ECont S L mc frs ads led s Qp Ep r) (e : Ext S.c ads led ads1 led1) : ECont S L mc frs ads1 led1 { s with heap := h1, toks := t1 } Qp Ep r := by
  cases r with
  | ok v H' => exact fun x h' tk' ads' led' sr ar ex vr => k x h' tk' ads' led' sr ar (e.trans ex) vr
  | exc p H' => exact fun x h' tk' ads' led' frs' su sr ar ex fl => k x h' tk' ads' led' frs' su sr ar (e.trans ex) fl
  | stuck => exact k
theorem ECont.bind {r : Rs V} {f : V → Hp → Rs V} (k : ECont S L mc frs ads led s Qp Ep (r.bind f))
    (g : ∀ v H1 x h1 t1 ads1 led1, r = .ok v H1 → SR S.c L mc led1 frs h1 → AR S.c ads1 H1 led1 → Ext S.c ads led ads1 led1 → VR S.c.hf (Im S.c ads1 led1) ads1 v x →
      ECont S L mc frs ads1 led1 { s with heap := h1, toks := t1 } Qp Ep (f v H1) → Qp' x { s with heap := h1, toks := t1 }) : ECont S L mc frs ads led s Qp' Ep r := by
  cases r with
  | ok v H1 => exact fun x h' tk' ads' led' sr ar ex vr => g v H1 x h' tk' ads' led' rfl sr ar ex vr (ECont.step (r := f v H1) k ex)
  | exc p H' => exact k
  | stuck => exact k
/-- the end of an expression that has its value -/
theorem ECont.fin {v : V} {H1 : Hp} {x : Value} (k : ECont S L mc frs ads led s Qp Ep (.ok v H1)) (sr : SR S.c L mc led1 frs h1) (ar : AR S.c ads1 H1 led1) (e : Ext S.c ads led ads1 led1) (vr : VR S.c.hf (Im S.c ads1 led1) ads1 v x) :
    Qp x { s with heap := h1, toks := t1 } := k x h1 t1 ads1 led1 sr ar e vr
/-- .. where nothing was made -/
theorem ECont.fin0 {v : V} {H : Hp} {x : Value} (k : ECont S L mc frs ads led s Qp Ep (.ok v H)) (sr : SR S.c L mc led frs s.heap) (ar : AR S.c ads H led) (vr : VR S.c.hf (Im S.c ads led) ads v x) :
    Qp x { s with toks := t1 } := k x s.heap t1 ads led sr ar .refl vr
end
noncomputable def EvalOK (S : Sta) (n : Nat) (ck : Ck) (x : Expr) (d : Loc → Hp → Rs V) : Prop :=
  ∀ {A : Around} {stk : List Env} {env : Env} {L : Addr} {mc : Str → Option Value} {led frs : Led} {ads : List Addr} {m : Loc} {H : Hp} {s : Shared} {Qp Ep : Value → Shared → Prop},
    Here S n ck A stk env L mc led frs ads m H s → ECont S L mc frs ads led s Qp Ep (d m H) → wpAny S.M A (eval x env) Qp Ep s
section
variable {S : Sta} {n : Nat} {ck : Ck}
theorem ok_lit_none {k : Nat} {pos : Pos} : EvalOK S n ck (.Constant .none k pos) (fun _ H => .ok .none H) := fun h k => wpAny_Constant_none (k.fin0 h.sr h.ar .none)
theorem ok_lit_bool {b : Bool} {k : Nat} {pos : Pos} : EvalOK S n ck (.Constant (.bool b) k pos) (fun _ H => .ok (.bool b) H) := fun h k => wpAny_Constant_bool (k.fin0 h.sr h.ar (.bool b))
theorem ok_lit_int {i : Int} {k : Nat} {pos : Pos} : EvalOK S n ck (.Constant (.int i) k pos) (fun _ H => .ok (.int i) H) := fun h k => wpAny_Constant_int (k.fin0 h.sr h.ar (.int i _))
theorem ok_lit_str {x : List Nat} {k : Nat} {pos : Pos} : EvalOK S n ck (.Constant (.str (St x)) k pos) (fun _ H => .ok (.str x) H) := fun h k => wpAny_Constant_str (k.fin0 h.sr h.ar (.str x _))
theorem ok_loc {i : Nat} {x : Str} {pos : Pos} (hx : ck.nm[i]? = some x) (hk : ck.sc.names.lookup x = some .local) (hd : (x == ("__debug__" : Str)) = false) :
    EvalOK S n ck (.Name x pos) (fun m H => Rs.of (m[i]?.join) H) := by
  intro A stk env L mc led frs ads m H s Qp Ep h k
  cases hm : m[i]?.join with
  | none => simp only [hm] at k; exact k.elim
  | some v =>
    simp only [hm] at k
    have hm' : m[i]? = some (some v) := by
      cases q : m[i]? with
      | none => rw [q] at hm; cases hm
      | some o => rw [q] at hm; exact congrArg some hm
    obtain ⟨x', y, h1, h2, h3⟩ := h.lr i v hm'
    rw [hx] at h1; cases h1
    have hek : env.kindOf x = some .local := by show env.scope.names.lookup x = _; rw [h.env.sc]; exact hk
    refine wpAny_Name (wpAny_loadName_local (by rw [h.env.sc]; exact h.env.kind) hek (by rw [h.env.loc]; exact h.sr.fr.ns) h2 ?_) hd
    exact k.fin0 (t1 := s.toks) h.sr h.ar h3
theorem ok_glo {x : Str} {pos : Pos} {o : Option V} (hk : ck.sc.names.lookup x = some .globalImplicit) (hd : (x == ("__debug__" : Str)) = false) (c : S.c.Ok)
    (hg : ∀ v, o = some v → ∃ y, S.c.mg x = some y ∧ VR S.c.hf (fun a o => S.c.base.get? a = some o) [] v y) : EvalOK S n ck (.Name x pos) (fun _ H => Rs.of o H) := by
  intro A stk env L mc led frs ads m H s Qp Ep h k
  cases o with
  | none => exact k.elim
  | some v =>
    obtain ⟨y, h1, h2⟩ := hg v rfl
    have hek : env.kindOf x = some .globalImplicit := by show env.scope.names.lookup x = _; rw [h.env.sc]; exact hk
    refine Name_function_global (by rw [h.env.sc]; exact h.env.kind) hek (loadGlobal_global (by rw [h.env.gl]; exact c.g.keeps h.sr.fr.keep) h1 ?_) hd
    exact k.fin0 (t1 := s.toks) h.sr h.ar (h2.mono (fun a o q => .inr q) fun i a q => by simp at q)
end
end
-- A4
section
open PySem PySem.W PyProof.Rows PySem.Calls
theorem big_le : big ≤ sizeLine := by rw [sizeLine_eq]; decide
theorem st_length (s : List Nat) : (St s).length = s.length := by simp [Str.length, St]
theorem st_append (s t : List Nat) : St s ++ St t = St (s ++ t) := by
  show (⟨s.toArray ++ t.toArray⟩ : Str) = ⟨(s ++ t).toArray⟩
  simp
inductive SeqAt (T : String) (hf : Str → Int) (P : Addr → Obj → Prop) (ads : List Addr) (vs : List V) (x : Value) : Prop where
  | mk (a : Addr) (xs : List Value) (n : Nat) (e : x = .ref a) (p : P a { cls := .type T, data := .seq xs.toArray n }) (r : VRs hf P ads vs xs) : SeqAt T hf P ads vs x
theorem vr_tup_inv {hf : Str → Int} {P : Addr → Obj → Prop} {ads : List Addr} {vs : List V} {x : Value} (h : VR hf P ads (.tup vs) x) : SeqAt "tuple" hf P ads vs x := by
  cases h with
  | tup h r => exact ⟨_, _, _, rfl, h, r⟩
theorem VRs.length {hf : Str → Int} {P : Addr → Obj → Prop} {ads : List Addr} : ∀ {vs : List V} {xs : List Value}, VRs hf P ads vs xs → vs.length = xs.length
  | _, _, .nil => rfl
  | _, _, .cons _ r => congrArg (· + 1) r.length
theorem VRs.append {hf : Str → Int} {P : Addr → Obj → Prop} {ads : List Addr} : ∀ {vs : List V} {xs : List Value} {ws : List V} {ys : List Value}, VRs hf P ads vs xs → VRs hf P ads ws ys → VRs hf P ads (vs ++ ws) (xs ++ ys)
  | _, _, _, _, .nil, h => h
  | _, _, _, _, .cons a r, h => .cons a (r.append h)
theorem VRs.get {hf : Str → Int} {P : Addr → Obj → Prop} {ads : List Addr} : ∀ {vs : List V} {xs : List Value}, VRs hf P ads vs xs → ∀ {i : Nat} {v : V}, vs[i]? = some v → ∃ x, xs[i]? = some x ∧ VR hf P ads v x
  | _, _, .nil, _, _, e => by simp at e
  | _, _, .cons a r, 0, _, e => by simp at e; subst e; exact ⟨_, by simp, a⟩
  | _, _, .cons a r, i + 1, _, e => by
    obtain ⟨x, h1, h2⟩ := r.get (by simpa using e)
    exact ⟨x, by simpa using h1, h2⟩
noncomputable def opOf : Bop → Operator
  | .add => .Add
  | .sub => .Sub
  | .mul => .Mult
  | .fdiv => .FloorDiv
  | .mod => .Mod
section
variable {S : Sta} {A : Around} {L : Addr} {mc : Str → Option Value} {frs : Led} {ads : List Addr} {led : Led} {s : Shared} {Qp Ep : Value → Shared → Prop} {H : Hp}
theorem isTup_of {h : Heap} {a : Addr} {xs : List Value} {n : Nat} (ho : h.get? a = some { cls := .type "tuple", data := .seq xs.toArray n }) : IsTup h a xs.toArray := ⟨_, ho, rfl, n, rfl⟩
theorem ECont.of_elim {o : Option V} {P : Prop} (k : ECont S L mc frs ads led s Qp Ep (Rs.of o H)) (g : ∀ r, o = some r → ECont S L mc frs ads led s Qp Ep (.ok r H) → P) : P := by
  cases o with
  | none => exact k.elim
  | some r => exact g r rfl k
section
variable {α : Type} {hf : Str → Int} {P : Addr → Obj → Prop} {v : V} {x : Value} {r : α} {C : Value → Prop}
theorem nn {p : Prop} (h : (none : Option α) = some r) : p := nomatch h
theorem vr_I {f : Int → Option α} (hv : VR hf P ads v x) (h : asI f v = some r) (k : ∀ i t, f i = some r → C (.int i t)) : C x := by
  cases hv <;> first | exact k _ _ h | exact nn h
theorem vr_S {f : List Nat → Option α} (hv : VR hf P ads v x) (h : asS f v = some r) (k : ∀ i t, f i = some r → C (.str (St i) t)) : C x := by
  cases hv <;> first | exact k _ _ h | exact nn h
theorem vr_T {f : List V → Option α} (hv : VR hf P ads v x) (h : asT f v = some r) (k : ∀ a vs xs n, f vs = some r → P a { cls := .type "tuple", data := .seq xs.toArray n } → VRs hf P ads vs xs → VR hf P ads (.tup vs) (.ref a) → C (.ref a)) : C x := by
  cases hv <;> first | exact nn h | skip
  rename_i p q
  exact k _ _ _ _ h p q (.tup p q)
theorem vr_L {f : List V → Option α} (hv : VR hf P ads v x) (h : asL f v = some r) (k : ∀ a vs xs n, f vs = some r → P a { cls := .type "list", data := .seq xs.toArray n } → VRs hf P ads vs xs → VR hf P ads (.lst vs) (.ref a) → C (.ref a)) : C x := by
  cases hv <;> first | exact nn h | skip
  rename_i p q
  exact k _ _ _ _ h p q (.lst p q)
theorem vr_II {C : Value → Value → Prop} {f : Int → Int → Option α} {w : V} {y : Value} (hv : VR hf P ads v x) (hw : VR hf P ads w y) (h : asI (fun i => asI (f i) w) v = some r) (k : ∀ i t j u, f i j = some r → C (.int i t) (.int j u)) : C x y :=
  vr_I (C := fun x => C x y) hv h fun i t h => vr_I (C := fun y => C (.int i t) y) hw h fun j u h => k i t j u h
theorem vr_some {v r : V} (e : some v = some r) (h : VR hf P ads v x) : VR hf P ads r x := Option.some.inj e ▸ h
theorem listO_elim {f : List V → Option α} {o : Option O} {p : Prop} (h : listO f o = some r) (k : ∀ vs, o = some (.list vs) → f vs = some r → p) : p :=
  match o, h with
  | some (.list vs), h => k vs rfl h
theorem dictO_elim {f : List (List Nat × V) → Option α} {o : Option O} {p : Prop} (h : dictO f o = some r) (k : ∀ vs, o = some (.dict vs) → f vs = some r → p) : p :=
  match o, h with
  | some (.dict vs), h => k vs rfl h
theorem map_elim {β : Type} {o : Option β} {f : β → α} {p : Prop} (h : o.map f = some r) (k : ∀ a, o = some a → f a = r → p) : p :=
  match o, h with
  | some a, h => k a rfl (Option.some.inj h)
theorem some_q {a b : Bool} {Q : Bool → Prop} (e : some a = some b) (h : Q b) : Q a := Option.some.inj e ▸ h
theorem some_n {o : Option Bool} {b : Bool} {p : Prop} (h : o.map (!·) = some b) (k : ∀ a, o = some a → b = !a → p) : p :=
  match o, h with
  | some a, h => k a rfl (Option.some.inj h).symm
theorem ff {p : Prop} (h : false = true) : p := nomatch h
theorem ite_si {c : Prop} [Decidable c] {o : Option α} (h : (if c then o else none) = some r) : c ∧ o = some r := by
  by_cases hc : c
  · exact ⟨hc, (if_pos hc).symm.trans h⟩
  · exact nn ((if_neg hc).symm.trans h)
theorem ite_ns {c : Prop} [Decidable c] {o : Option α} (h : (if c then none else o) = some r) : ¬ c ∧ o = some r := by
  by_cases hc : c
  · exact nn ((if_pos hc).symm.trans h)
  · exact ⟨hc, (if_neg hc).symm.trans h⟩
end
theorem ar_new {n : Nat} (sr : SR S.c L mc led frs s.heap) (ar : AR S.c ads H led) : s.heap.objs.size ∉ ads := fun hm => by
  obtain ⟨i, hi⟩ := List.mem_iff_getElem?.mp hm
  have hl : i < H.length := by rw [← ar.len]; exact (List.getElem?_eq_some_iff.mp hi).1
  obtain ⟨b', z, q1, q2, _⟩ := ar.ob i H[i] (List.getElem?_eq_getElem hl)
  rw [hi] at q1; cases q1
  exact Nat.lt_irrefl _ (sr.lt q2)
theorem add_strs {a b : List Nat} {t u : Tok} (hle : a.length + b.length ≤ big) (h : ∀ w k, Qp (.str (St (a ++ b)) w) { s with toks := k }) : wpAny S.M A (binaryOp .Add (.str (St a) t) (.str (St b) u)) Qp Ep s := by
  refine P.add_str ?_
  rw [st_length, st_length]
  split
  · rename_i h0
    cases a with
    | nil => exact h _ s.toks
    | cons => cases h0
  · split
    · rename_i h0 h1
      cases b with
      | nil => rw [List.append_nil] at h; exact h _ s.toks
      | cons => cases h1
    · rw [st_append]
      exact ⟨by rw [st_length, List.length_append]; exact Nat.le_trans hle big_le, h _ _⟩
theorem bits_le {i : Int} (h : i.natAbs < 4294967296) : Builtin.Int.intBits i ≤ 64 := intBits_le (Nat.lt_of_lt_of_le h (by decide))
theorem prim_add {v w r : V} {x y : Value} (sr : SR S.c L mc led frs s.heap) (ar : AR S.c ads H led) (hv : VR S.c.hf (Im S.c ads led) ads v x) (hw : VR S.c.hf (Im S.c ads led) ads w y)
    (hb : addV v w = some r) (k : ECont S L mc frs ads led s Qp Ep (.ok r H)) : wpAny S.M A (binaryOp .Add x y) Qp Ep s := by
  cases hv with
  | int i t => exact vr_I (C := fun y => wpAny S.M A (binaryOp .Add (.int i t) y) Qp Ep s) hw hb fun j t hb => P.add_int (k.fin0 sr ar (vr_some hb (.int _ _)))
  | str a t => exact vr_S (C := fun y => wpAny S.M A (binaryOp .Add (.str (St a) t) y) Qp Ep s) hw hb fun b t hb => add_strs (ite_si hb).1 fun w k' => k.fin0 (t1 := k') sr ar (vr_some (ite_si hb).2 (.str _ _))
  | tup p1 r1 =>
    refine vr_T (C := fun y => wpAny S.M A (binaryOp .Add _ y) Qp Ep s) hw hb fun a2 ws ys n2 hb p2 r2 hw => ?_
    obtain ⟨hle, hb⟩ := ite_si hb
    cases hb
    refine add_tuples sr.fr sr.nw (isTup_of (sr.im p1)) (isTup_of (sr.im p2)) (fun e => ?_) (fun _ e => ?_) (fun _ _ h' F' N' => ?_) ?_
    · subst e; cases r1
      exact k.fin0 (t1 := s.toks) sr ar hw
    · subst e; cases r2
      rw [List.append_nil] at k
      exact k.fin0 (t1 := s.toks) sr ar (.tup p1 r1)
    · exact k.fin (t1 := s.toks) (sr.of_news F' N' fun p hp => Heap.lt_size (sr.nw p hp).1) ar.new ext_new (.tup (a := s.heap.objs.size) (n := 0) (.inl ⟨List.mem_cons_self, ar_new (n := 0) sr ar⟩) ((ext_new (c := S.c)).vrs (r1.append r2)))
    · rw [← r1.length, ← r2.length]
      exact Nat.le_trans hle big_le
  | _ => exact nn hb
theorem prim_bin {op : Bop} {v w : V} {x y : Value} (sr : SR S.c L mc led frs s.heap) (ar : AR S.c ads H led) (hv : VR S.c.hf (Im S.c ads led) ads v x) (hw : VR S.c.hf (Im S.c ads led) ads w y)
    (k : ECont S L mc frs ads led s Qp Ep (Rs.of (binV op v w) H)) : wpAny S.M A (binaryOp (opOf op) x y) Qp Ep s := by
  refine k.of_elim fun r hb k1 => ?_
  cases op with
  | add => exact prim_add sr ar hv hw hb k1
  | sub => exact vr_II (C := fun x y => wpAny S.M A (binaryOp .Sub x y) Qp Ep s) hv hw hb fun i t j u hb => P.sub_int (k1.fin0 sr ar (vr_some hb (.int _ _)))
  | mul => exact vr_II (C := fun x y => wpAny S.M A (binaryOp .Mult x y) Qp Ep s) hv hw hb fun i t j u hb => P.mul_int (k1.fin0 sr ar (vr_some (ite_si hb).2 (.int _ _))) ((ite_si hb).1.elim (fun h => IntMulOk.of_left (bits_le h)) fun h => IntMulOk.of_right (bits_le h))
  | fdiv => exact vr_II (C := fun x y => wpAny S.M A (binaryOp .FloorDiv x y) Qp Ep s) hv hw hb fun i t j u hb => have hm := (ite_si hb).1; floordiv_int (Int.ne_of_gt hm.1) (k1.fin0 sr ar (vr_some (ite_si hb).2 (.int _ _))) (.inl (PyProof.noPylong_small (by omega)))
  | mod => exact vr_II (C := fun x y => wpAny S.M A (binaryOp .Mod x y) Qp Ep s) hv hw hb fun i t j u hb => mod_int' (ite_ns hb).1 (k1.fin0 sr ar (vr_some (ite_ns hb).2 (.int _ _)))
theorem prim_iadd {v w : V} {x y : Value} (sr : SR S.c L mc led frs s.heap) (ar : AR S.c ads H led) (hv : VR S.c.hf (Im S.c ads led) ads v x) (hw : VR S.c.hf (Im S.c ads led) ads w y)
    (k : ECont S L mc frs ads led s Qp Ep (Rs.of (iaddV v w) H)) : wpAny S.M A (inplaceOp .Add x y) Qp Ep s :=
  k.of_elim fun r hb k1 => vr_II (C := fun x y => wpAny S.M A (inplaceOp .Add x y) Qp Ep s) hv hw hb fun i t j u hb => P.iadd_int (k1.fin0 sr ar (vr_some hb (.int _ _)))
end
end
-- A5
section
open PySem PySem.W PyProof.Rows PySem.Calls PySem.SeqAt
/-- data as the library knows it -/
noncomputable def toPy : V → PyData
  | .none => .none
  | .bool b => .bool b
  | .int i => .int i
  | .str s => .str (St s)
  | .tup vs => .tuple (toPys vs)
  | .lst vs => .list (toPys vs)
  | .dct _ => .none
  | .inst _ _ => .none
  | .obj _ => .none
  | .glob _ => .none
where toPys : List V → List PyData
  | [] => []
  | v :: r => toPy v :: toPys r
theorem strOk_st {s : List Nat} (h : isStrs s = true) : PyData.strOk (St s) = true := by
  unfold PyData.strOk St
  unfold isStrs at h
  simpa using h
theorem toPys_map (vs : List V) : toPy.toPys vs = vs.map toPy := by
  induction vs with
  | nil => rfl
  | cons v r ih => rw [toPy.toPys, ih]; rfl
theorem lay_all {k : Nat} (ih : ∀ v, plain k v = true → (toPy v).canLay0 = true ∧ (toPy v).depth ≤ k + 1) : ∀ vs : List V, vs.all (plain k) = true → PyData.canLayAll0 (toPy.toPys vs) = true ∧ PyData.depthAll (toPy.toPys vs) ≤ k + 1
  | [], _ => ⟨rfl, Nat.zero_le _⟩
  | v :: r, h =>
    have h := Bool.and_eq_true_iff.mp h
    ⟨Bool.and_eq_true_iff.mpr ⟨(ih v h.1).1, (lay_all ih r h.2).1⟩, Nat.max_le.mpr ⟨(ih v h.1).2, (lay_all ih r h.2).2⟩⟩
theorem plain_lay : ∀ (k : Nat) (v : V), plain k v = true → (toPy v).canLay0 = true ∧ (toPy v).depth ≤ k + 1
  | _, .none, _ => ⟨rfl, Nat.zero_le _⟩
  | _, .bool _, _ => ⟨rfl, Nat.zero_le _⟩
  | _, .int _, _ => ⟨rfl, Nat.zero_le _⟩
  | _, .str _, h => ⟨strOk_st h, Nat.zero_le _⟩
  | k + 1, .tup vs, h => have a := lay_all (plain_lay k) vs h; ⟨a.1, Nat.succ_le_succ a.2⟩
  | k + 1, .lst vs, h => have a := lay_all (plain_lay k) vs h; ⟨a.1, Nat.succ_le_succ a.2⟩
  | 0, .tup _, h => nomatch h
  | 0, .lst _, h => nomatch h
  | _, .dct _, h => nomatch h
  | _, .inst _ _, h => nomatch h
  | _, .obj _, h => nomatch h
  | _, .glob _, h => nomatch h
theorem plain_shaped {k : Nat} (hk : k ≤ 60) {v : V} (h : plain k v = true) : shaped (toPy v) = true := by
  have := plain_lay k v h
  unfold shaped
  rw [this.1, Bool.true_and]
  exact decide_eq_true (by omega)
mutual
theorem VR.reads {hf : Str → Int} {P : Addr → Obj → Prop} {ads : List Addr} {h : Heap} (hP : ∀ a o, P a o → h.get? a = some o) : ∀ (k : Nat) {v : V} {x : Value}, plain k v = true → VR hf P ads v x → ∃ as, Reads h x (toPy v) as
  | _, _, _, _, .none => ⟨_, .none⟩
  | _, _, _, _, .bool b => ⟨_, .bool b⟩
  | _, _, _, _, .int i t => ⟨_, .int i t⟩
  | _, _, _, _, .str s t => ⟨_, .str _ t⟩
  | k, _, _, q, .tup p r => by
    cases k with
    | zero => cases q
    | succ k => exact (VRs.reads hP k q r).elim fun as ra => ⟨_, .tuple (hP _ _ p) rfl rfl ra⟩
  | k, _, _, q, .lst p r => by
    cases k with
    | zero => cases q
    | succ k => exact (VRs.reads hP k q r).elim fun as ra => ⟨_, .list (hP _ _ p) rfl rfl ra⟩
  | _, _, _, q, .dct _ _ _ => absurd q Bool.false_ne_true
  | _, _, _, q, .inst _ _ => absurd q Bool.false_ne_true
  | _, _, _, q, .obj _ => absurd q Bool.false_ne_true
  | _, _, _, q, .glob _ => absurd q Bool.false_ne_true
theorem VRs.reads {hf : Str → Int} {P : Addr → Obj → Prop} {ads : List Addr} {h : Heap} (hP : ∀ a o, P a o → h.get? a = some o) : ∀ (k : Nat) {vs : List V} {xs : List Value}, vs.all (plain k) = true → VRs hf P ads vs xs → ∃ as, ReadsAll h xs (toPy.toPys vs) as
  | _, _, _, _, .nil => ⟨_, .nil⟩
  | k, _, _, q, .cons a r => by
    have q := Bool.and_eq_true_iff.mp q
    exact (VR.reads hP k q.1 a).elim fun as ra => (VRs.reads hP k q.2 r).elim fun bs rb => ⟨_, .cons ra rb⟩
end
end
-- A6
section
open PySem PySem.W PyProof.Rows PySem.Calls PySem.SeqAt
mutual
theorem same_eq : ∀ {a b : V}, same a b = true → a = b
  | .none, b, h => by cases b <;> first | rfl | exact ff h
  | .bool a, b, h => by cases b <;> first | exact congrArg V.bool (eq_of_beq h) | exact ff h
  | .int a, b, h => by cases b <;> first | exact congrArg V.int (eq_of_beq h) | exact ff h
  | .str a, b, h => by cases b <;> first | exact congrArg V.str (eq_of_beq h) | exact ff h
  | .tup a, b, h => by cases b <;> first | exact congrArg V.tup (sames_eq h) | exact ff h
  | .lst a, b, h => by cases b <;> first | exact congrArg V.lst (sames_eq h) | exact ff h
  | .dct _, _, h => ff h
  | .inst _ _, _, h => ff h
  | .obj _, _, h => ff h
  | .glob _, _, h => ff h
theorem sames_eq : ∀ {a b : List V}, sames a b = true → a = b
  | [], [], _ => rfl
  | [], _ :: _, h => ff h
  | _ :: _, [], h => ff h
  | a :: r, b :: q, h => by
    have h := Bool.and_eq_true_iff.mp h
    rw [same_eq h.1, sames_eq h.2]
end
noncomputable def copOf : Cop → CmpOp
  | .eq => .Eq
  | .ne => .NotEq
  | .lt => .Lt
  | .le => .LtE
  | .gt => .Gt
  | .ge => .GtE
  | .isin => .In
  | .notin => .NotIn
  | .is => .Is
  | .isnot => .IsNot
theorem strLe_eq : ∀ (a b : List Nat), strLe a b = !(decide (b < a))
  | [], b => by simp [strLe]
  | _ :: _, [] => by simp [strLe]
  | a :: r, b :: q => by
    unfold strLe
    rw [strLe_eq r q]
    by_cases h1 : a < b
    · rw [if_pos h1]
      have : ¬ (b :: q < a :: r) := by
        rw [List.cons_lt_cons_iff]
        omega
      simp [this]
    · rw [if_neg h1]
      by_cases h2 : b < a
      · rw [if_pos h2]
        have : (b :: q < a :: r) := by rw [List.cons_lt_cons_iff]; exact .inl h2
        simp [this]
      · rw [if_neg h2]
        have e : a = b := by omega
        subst e
        congr 1
        by_cases h3 : q < r
        · have : (a :: q < a :: r) := by rw [List.cons_lt_cons_iff]; exact .inr ⟨rfl, h3⟩
          simp [h3, this]
        · have : ¬ (a :: q < a :: r) := by
            rw [List.cons_lt_cons_iff]
            exact fun h => h.elim (Nat.lt_irrefl _) fun h => h3 h.2
          simp [h3, this]
section
variable {S : Sta} {A : Around} {L : Addr} {mc : Str → Option Value} {frs : Led} {ads : List Addr} {led : Led} {s : Shared} {Qp Ep : Value → Shared → Prop} {H : Hp}
/-- what stands under a number -/
inductive ObjAt (S : Sta) (ads : List Addr) (led : Led) (h : Heap) (i : Nat) (o : O) (x : Value) : Prop where
  | mk (a : Addr) (y : Obj) (e : x = .ref a) (h1 : ads[i]? = some a) (h2 : (a, y) ∈ led) (h3 : h.get? a = some y) (r : OR S.c (Im S.c ads led) ads o y) : ObjAt S ads led h i o x
inductive ListAt (S : Sta) (ads : List Addr) (led : Led) (h : Heap) (i : Nat) (vs : List V) (x : Value) : Prop where
  | mk (a : Addr) (xs : List Value) (n : Nat) (e : x = .ref a) (h1 : ads[i]? = some a) (h2 : (a, { cls := .type "list", data := .seq xs.toArray n }) ∈ led) (h3 : h.get? a = some { cls := .type "list", data := .seq xs.toArray n }) (r : VRs S.c.hf (Im S.c ads led) ads vs xs) : ListAt S ads led h i vs x
theorem obj_at (sr : SR S.c L mc led frs s.heap) (ar : AR S.c ads H led) {i : Nat} {o : O} {x : Value} (hi : H[i]? = some o) (hv : VR S.c.hf (Im S.c ads led) ads (.obj i) x) :
    ObjAt S ads led s.heap i o x := by
  cases hv with
  | obj e =>
    obtain ⟨a, y, h1, h2, h3⟩ := ar.ob i o hi
    rw [e] at h1; cases h1
    exact ⟨_, y, rfl, e, h2, sr.get h2, h3⟩
theorem list_at (sr : SR S.c L mc led frs s.heap) (ar : AR S.c ads H led) {i : Nat} {vs : List V} {x : Value} (hi : H[i]? = some (.list vs)) (hv : VR S.c.hf (Im S.c ads led) ads (.obj i) x) :
    ListAt S ads led s.heap i vs x := by
  obtain ⟨a, y, rfl, h1, h2, h3, h4⟩ := obj_at sr ar hi hv
  cases h4 with
  | list r => exact ⟨a, _, _, rfl, h1, h2, h3, r⟩
theorem opened_reads (sr : SR S.c L mc led frs s.heap) (ar : AR S.c ads H led) {k : Nat} {v : V} {x : Value} (hp : plain (k + 1) (opened H v) = true) (hv : VR S.c.hf (Im S.c ads led) ads v x) : ∃ as, Reads s.heap x (toPy (opened H v)) as := by
  cases v with
  | obj i =>
    change plain (k + 1) (openO i H[i]?) = true at hp
    show ∃ as, Reads s.heap x (toPy (openO i H[i]?)) as
    cases hi : H[i]? with
    | none => rw [hi] at hp; exact ff hp
    | some o =>
      rw [hi] at hp
      cases o with
      | dict => exact ff hp
      | list vs =>
        obtain ⟨a, xs, n, rfl, _, _, h3, r⟩ := list_at sr ar hi hv
        exact (VRs.reads (fun _ _ => sr.im) k hp r).elim fun as ra => ⟨_, .list h3 rfl rfl ra⟩
  | _ => exact VR.reads (fun _ _ => sr.im) (k + 1) hp hv
theorem prim_same (neg : Bool) {v w : V} {x y : Value} (hu : A.units + 64 < cLine) (sr : SR S.c L mc led frs s.heap) (ar : AR S.c ads H led) (hv : VR S.c.hf (Im S.c ads led) ads v x) (hw : VR S.c.hf (Im S.c ads led) ads w y)
    (hp : plain 3 (opened H v) = true) (hs : same (opened H v) (opened H w) = true) (h : Qp (.bool (!neg)) s) : wpAny S.M A (compareOp (if neg then .NotEq else .Eq) x y) Qp Ep s := by
  have e := same_eq hs
  obtain ⟨as, ra⟩ := opened_reads sr ar hp hv
  obtain ⟨bs, rb⟩ := opened_reads sr ar (e ▸ hp) hw
  have sh := plain_shaped (by decide) hp
  rw [← e] at rb
  have er := eqv_refl (toPy (opened H v)) (canLay_of_shaped sh)
  cases neg with
  | true => exact ne_dataH ra rb sh sh hu (by rw [er]; exact h)
  | false => exact eq_dataH ra rb sh sh hu (by rw [er]; exact h)
theorem prim_eqD (neg : Bool) {v w : V} {x y : Value} {b : Bool} (hu : A.units + 64 < cLine) (sr : SR S.c L mc led frs s.heap) (ar : AR S.c ads H led) (hv : VR S.c.hf (Im S.c ads led) ads v x) (hw : VR S.c.hf (Im S.c ads led) ads w y)
    (hb : eqD H v w = some b) (h : Qp (.bool (xor neg b)) s) : wpAny S.M A (compareOp (if neg then .NotEq else .Eq) x y) Qp Ep s := by
  have e := ite_si hb
  have hc := Bool.and_eq_true_iff.mp e.1
  exact prim_same neg hu sr ar hv hw hc.1 hc.2 (by have := some_q (Q := fun b => Qp (.bool (xor neg b)) s) e.2 h; cases neg <;> exact this)
theorem prim_eq {v w : V} {x y : Value} {b : Bool} (hu : A.units + 64 < cLine) (sr : SR S.c L mc led frs s.heap) (ar : AR S.c ads H led) (hv : VR S.c.hf (Im S.c ads led) ads v x) (hw : VR S.c.hf (Im S.c ads led) ads w y)
    (hb : eqV H v w = some b) (h : Qp (.bool b) s) : wpAny S.M A (compareOp .Eq x y) Qp Ep s := by
  cases v with
  | int a => exact vr_I (f := fun a => asI (fun b => some (a == b)) w) (C := fun x => wpAny S.M A (compareOp .Eq x y) Qp Ep s) hv hb fun i t hb => vr_I (C := fun y => wpAny S.M A (compareOp .Eq (.int i t) y) Qp Ep s) hw hb fun j u hb => P.eq_int (some_q (Q := fun b => Qp (.bool b) s) hb h)
  | str a => exact vr_S (f := fun a => asS (fun b => some (a == b)) w) (C := fun x => wpAny S.M A (compareOp .Eq x y) Qp Ep s) hv hb fun i t hb => vr_S (C := fun y => wpAny S.M A (compareOp .Eq (.str (St i) t) y) Qp Ep s) hw hb fun j u hb => P.eq_str (some_q (Q := fun b => Qp (.bool b) s) hb h)
  | obj i =>
    refine vr_L (C := fun y => wpAny S.M A (compareOp .Eq x y) Qp Ep s) hw hb fun a2 ws ys n2 hb p2 r2 hw => ?_
    cases ws with
    | cons v vs => exact prim_eqD (S := S) false hu sr ar hv hw hb (by rw [Bool.false_xor]; exact h)
    | nil =>
      refine listO_elim hb fun vs hi hb => ?_
      obtain ⟨a, xs, n, rfl, _, _, h3, r⟩ := list_at sr ar hi hv
      cases r2
      cases hb
      have hl : s.heap.IsList a xs.toArray := ⟨_, h3, rfl, n, rfl⟩
      have hl2 := sr.im p2
      cases r with
      | nil => exact eq_listAt (e := fun _ => true) hl ⟨_, hl2, rfl, _, rfl⟩ (by simp) (by omega) (fun j h1 _ => by simp at h1) (by simpa using h)
      | cons => exact eq_list_lengthsAt hl ⟨_, hl2, rfl, _, rfl⟩ (by simp) (by omega) h
  | lst | tup => exact prim_eqD (S := S) false hu sr ar hv hw hb (by rw [Bool.false_xor]; exact h)
  | _ => exact nn hb
theorem prim_ne {v w : V} {x y : Value} {b : Bool} (hu : A.units + 64 < cLine) (sr : SR S.c L mc led frs s.heap) (ar : AR S.c ads H led) (hv : VR S.c.hf (Im S.c ads led) ads v x) (hw : VR S.c.hf (Im S.c ads led) ads w y)
    (hb : neV H v w = some b) (h : Qp (.bool b) s) : wpAny S.M A (compareOp .NotEq x y) Qp Ep s := by
  have nD : ∀ {v w : V} {y : Value}, VR S.c.hf (Im S.c ads led) ads v x → VR S.c.hf (Im S.c ads led) ads w y → (eqD H v w).map (!·) = some b → wpAny S.M A (compareOp .NotEq x y) Qp Ep s := fun hv hw hb =>
    some_n hb fun d hd e => prim_eqD (S := S) true hu sr ar hv hw hd (by rw [Bool.true_xor, ← e]; exact h)
  cases v with
  | int a => exact vr_I (f := fun a => asI (fun b => some (!(a == b))) w) (C := fun x => wpAny S.M A (compareOp .NotEq x y) Qp Ep s) hv hb fun i t hb => vr_I (C := fun y => wpAny S.M A (compareOp .NotEq (.int i t) y) Qp Ep s) hw hb fun j u hb => P.ne_int (some_q (Q := fun b => Qp (.bool b) s) hb h)
  | str a => exact vr_S (f := fun a => asS (fun b => some (!(a == b))) w) (C := fun x => wpAny S.M A (compareOp .NotEq x y) Qp Ep s) hv hb fun i t hb => vr_S (C := fun y => wpAny S.M A (compareOp .NotEq (.str (St i) t) y) Qp Ep s) hw hb fun j u hb => P.ne_str (some_q (Q := fun b => Qp (.bool b) s) hb h)
  | obj i =>
    refine vr_L (C := fun y => wpAny S.M A (compareOp .NotEq x y) Qp Ep s) hw hb fun a2 ws ys n2 hb p2 r2 hw => ?_
    cases ws with
    | cons v vs => exact nD hv hw hb
    | nil =>
      refine listO_elim hb fun vs hi hb => ?_
      have e := ite_si hb
      have ho : opened H (.obj i) = .lst vs := congrArg (openO i) hi
      have hp' : plain 4 (opened H (.obj i)) = true := by rw [ho]; exact e.1
      refine (opened_reads sr ar hp' hv).elim fun as ra => (VR.reads (h := s.heap) (fun _ _ => sr.im) 4 (v := .lst []) rfl hw).elim fun bs rb => ne_dataH ra rb (plain_shaped (by decide) hp') (by decide) hu ?_
      rw [ho]
      have := some_q (Q := fun b => Qp (.bool b) s) e.2 h
      cases vs <;> exact this
  | lst | tup => exact nD hv hw hb
  | _ => exact nn hb
end
end
-- A7
section
open PySem PySem.W PyProof.Rows PySem.Calls PySem.SeqAt
theorem st_ne {a b : List Nat} (h : a ≠ b) : St a ≠ St b := fun e => h (st_inj e)
theorem st_eq_iff {a b : List Nat} : St a = St b ↔ a = b := ⟨st_inj, fun e => by rw [e]⟩
section
variable {hf : Str → Int} {P : Addr → Obj → Prop} {ads : List Addr}
theorem VKs.find : ∀ {kvs : List (List Nat × V)} {es : List DictEntry}, VKs hf P ads kvs es → ∀ (k : List Nat),
    match kvGet kvs k with
    | some v => ∃ e, es.find? (fun e => e.key.isStr (St k)) = some e ∧ VR hf P ads v e.val
    | none => es.find? (fun e => e.key.isStr (St k)) = none
  | _, _, .nil, k => by simp [kvGet]
  | _, _, .cons (k := k') (t := t) (x := x) (r := r) a q, k => by
    have ih := q.find k
    by_cases h : k' = k
    · subst h
      simp only [kvGet, List.find?_cons, beq_self_eq_true, Option.map_some]
      exact ⟨⟨hf (St k'), .str (St k') t, x⟩, by simp [Value.isStr], a⟩
    · have h1 : (k' == k) = false := beq_eq_false_iff_ne.mpr h
      have h2 : (Value.str (St k') t).isStr (St k) = false := beq_eq_false_iff_ne.mpr (st_ne h)
      simp only [kvGet, List.find?_cons, h1, h2] at ih ⊢
      exact ih
theorem VKs.noRef : ∀ {kvs : List (List Nat × V)} {es : List DictEntry}, VKs hf P ads kvs es → es.any (·.refKey) = false
  | _, _, .nil => rfl
  | _, _, .cons a q => by rw [List.any_cons, q.noRef]; rfl
theorem VKs.length : ∀ {kvs : List (List Nat × V)} {es : List DictEntry}, VKs hf P ads kvs es → es.length = kvs.length
  | _, _, .nil => rfl
  | _, _, .cons a q => congrArg (· + 1) q.length
theorem VKs.getL {kvs : List (List Nat × V)} {es : List DictEntry} (r : VKs hf P ads kvs es) (k : List Nat) :
    match kvGet kvs k with
    | some v => ∃ x, getL (St k) es = some (some x) ∧ VR hf P ads v x
    | none => getL (St k) es = some none := by
  have := r.find k
  cases h : kvGet kvs k with
  | some v =>
    rw [h] at this
    obtain ⟨e, h1, h2⟩ := this
    exact ⟨e.val, by unfold PySem.W.getL; rw [h1], h2⟩
  | none =>
    rw [h] at this
    simp only at this ⊢
    unfold PySem.W.getL
    rw [this]
    simp only
    rw [r.noRef]; rfl
end
section
variable {S : Sta} {A : Around} {L : Addr} {mc : Str → Option Value} {frs : Led} {ads : List Addr} {led : Led} {s : Shared} {Qp Ep : Value → Shared → Prop} {H : Hp}
theorem VKs.keysOf {P : Addr → Obj → Prop} : ∀ {kvs : List (List Nat × V)} {es : List DictEntry}, VKs S.c.hf P ads kvs es → ∀ e ∈ es, ∃ k, (strKind S.c.prog S.c.w).is k e.key = true ∧ e.hash = (strKind S.c.prog S.c.w).hash k
  | _, _, .nil, _, h => nomatch h
  | _, _, .cons (k := k) (t := t) a q, e, h => by
    rcases List.mem_cons.mp h with rfl | h
    · exact ⟨St k, strKind_is S.c.prog S.c.w (St k) t, rfl⟩
    · exact q.keysOf e h
/-- a dict of the kind of ours, as the library has it -/
theorem mapOf_of {h : Heap} {P : Addr → Obj → Prop} {a : Addr} {n : Nat} {kvs : List (List Nat × V)} {es : List DictEntry} (ho : h.get? a = some (dictOf es n)) (r : VKs S.c.hf P ads kvs es) :
    h.MapOf (strKind S.c.prog S.c.w) a (fun k => findBy Value.isStrOf es.toArray k) :=
  ⟨_, es.toArray, n, ho, ⟨rfl, rfl, rfl⟩, rfl, fun e he => r.keysOf e (by simpa using he), fun _ => rfl⟩
theorem findBy_of {P : Addr → Obj → Prop} {kvs : List (List Nat × V)} {es : List DictEntry} (r : VKs S.c.hf P ads kvs es) (k : List Nat) :
    match kvGet kvs k with
    | some v => ∃ x, findBy Value.isStrOf es.toArray (St k) = some x ∧ VR S.c.hf P ads v x
    | none => findBy Value.isStrOf es.toArray (St k) = none := by
  have := r.find k
  have q : (fun d : DictEntry => Value.isStrOf (St k) d.key) = fun d => d.key.isStr (St k) := funext fun d => (isStr_of (St k) d.key).symm
  unfold findBy
  rw [List.find?_toArray, q]
  cases h : kvGet kvs k with
  | some v =>
    rw [h] at this
    obtain ⟨e, h1, h2⟩ := this
    exact ⟨e.val, by rw [h1]; rfl, h2⟩
  | none =>
    rw [h] at this
    simp only at this ⊢
    rw [this]; rfl
theorem strsOf_are {P : Addr → Obj → Prop} {hf : Str → Int} : ∀ {vs : List V} {xs : List Value} {l : List (List Nat)}, strsOf vs = some l → VRs hf P ads vs xs → StrsAre xs (l.map St)
  | [], _, _, h, .nil => by cases h; exact .nil
  | v :: r, _, _, h, .cons a q => by
    cases a with
    | str s t =>
      simp only [strsOf, Option.map_eq_some_iff] at h
      obtain ⟨l', h1, rfl⟩ := h
      exact .cons (St s) t (strsOf_are h1 q)
    | _ => cases h
theorem occ_empty (x : Str) : (!(Builtin.Str.occurrences x (St []) 0 x.length 1).isEmpty) = true := by
  rcases StrLaws.occ_head x (St []) 1 (Nat.le_refl _) with ⟨_, h⟩ | ⟨i, r, h, _⟩
  · refine absurd ?_ (h 0)
    refine ⟨by rw [st_length]; exact Nat.zero_le _, ?_⟩
    show (x.cps.extract 0 (0 + (St []).length) == (St []).cps) = true
    rw [st_length]
    simp
  · rw [h]; rfl
theorem any_st (l : List (List Nat)) (y : List Nat) : ((l.map St).any fun z => z == St y) = l.contains y := by
  rw [List.any_map, List.contains_eq_any_beq]
  congr 1
  funext z
  show (St z == St y) = (y == z)
  by_cases q : z = y
  · subst q; simp
  · have q' : St z ≠ St y := st_ne q
    rw [beq_eq_false_iff_ne.mpr q', beq_eq_false_iff_ne.mpr (Ne.symm q)]
theorem in_one (c : Nat) (x : List Nat) : (!(Builtin.Str.occurrences (St x) (St [c]) 0 (St x).length 1).isEmpty) = x.contains c := by
  have := StrLaws.found_one (St x) c
  rw [show St [c] = (⟨#[c]⟩ : Str) from rfl, this]
  show decide (c ∈ x.toArray.toList) = _
  rw [List.toList_toArray, List.contains_eq_mem]
theorem in_str {i x : List Nat} {t u : Tok} {b : Bool} (hb : inStr i x = some b) (h : Qp (.bool b) s) : wpAny S.M A (compareOp .In (.str (St i) t) (.str (St x) u)) Qp Ep s := by
  refine P.in_str ?_
  match i, hb with
  | [], hb => rw [occ_empty (St x)]; exact some_q (Q := fun b => Qp (.bool b) s) hb h
  | [c], hb => rw [in_one c x]; exact some_q (Q := fun b => Qp (.bool b) s) hb h
theorem prim_in {v w : V} {x y : Value} {b : Bool} (c : S.c.Ok) (sr : SR S.c L mc led frs s.heap) (ar : AR S.c ads H led) (hv : VR S.c.hf (Im S.c ads led) ads v x) (hw : VR S.c.hf (Im S.c ads led) ads w y)
    (hb : inV v w = some b) (h : ∀ t, Qp (.bool b) { s with toks := t }) : wpAny S.M A (compareOp .In x y) Qp Ep s := by
  refine vr_S (C := fun x => wpAny S.M A (compareOp .In x y) Qp Ep s) hv hb fun i t hb => ?_
  cases hw with
  | str x u => exact in_str hb (h s.toks)
  | tup p r => exact map_elim hb fun l h1 e => in_tuple_strs (isTup_of (sr.im p)) (strsOf_are h1 r) (by rw [any_st, e]; exact h s.toks)
  | dct p q r =>
    refine wpAny_in_of (strKind_is S.c.prog S.c.w (St i) _) q (mapOf_of (sr.im p) r) ?_
    have := findBy_of r i
    have hb : (kvGet _ i).isSome = b := Option.some.inj hb
    subst hb
    cases hk : kvGet _ i with
    | some v => rw [hk] at this h; exact this.elim fun x g => by rw [g.1]; exact h _
    | none => rw [hk] at this h; rw [show findBy _ _ _ = none from this]; exact h _
  | _ => exact nn hb
end
end
-- A8
section
open PySem PySem.W PyProof.Rows PySem.Calls PySem.SeqAt
section
variable {S : Sta} {A : Around} {L : Addr} {mc : Str → Option Value} {frs : Led} {ads : List Addr} {led : Led} {s : Shared} {Qp Ep : Value → Shared → Prop} {H : Hp}
theorem notIn_of_in {x y : Value} (h : wpAny S.M A (compareOp .In x y) (fun r s' => ∃ b, r = .bool b ∧ Qp (.bool (!b)) s') Ep s) : wpAny S.M A (compareOp .NotIn x y) Qp Ep s := by
  have e1 : compareOp .In x y = (do return .bool (← contains y x)) := rfl
  have e2 : compareOp .NotIn x y = (do return .bool (!(← contains y x))) := rfl
  rw [e2]
  rw [e1] at h
  intro Γ p hΓ
  have := h Γ p hΓ
  simp only [Sem.wp_bind', Sem.wp_pure'] at this ⊢
  refine Sem.wp_mono _ Γ _ (fun b p' s' h' => ?_) (fun _ _ _ h' => h') p s this
  obtain ⟨b', e, q⟩ := h'
  cases e
  exact q
theorem vr_N {o : Option Bool} {w : V} {y : Value} {b : Bool} (hw : VR S.c.hf (Im S.c ads led) ads w y) (h : asN o w = some b) {C : Value → Prop} (k : o = some b → C .none) : C y := by
  cases hw <;> first | exact k h | exact nn h
theorem is_of {v : V} {x : Value} {b : Bool} (hv : VR S.c.hf (Im S.c ads led) ads v x) (hb : isNone v = some b) : (x == .none) = b := by
  cases hv <;> first | exact Option.some.inj hb | exact nn hb
theorem prim_cmp {op : Cop} {v w : V} {x y : Value} (c : S.c.Ok) (hu : A.units + 64 < cLine) (sr : SR S.c L mc led frs s.heap) (ar : AR S.c ads H led) (hv : VR S.c.hf (Im S.c ads led) ads v x) (hw : VR S.c.hf (Im S.c ads led) ads w y)
    {b : Bool} (hb : cmpV H op v w = some b) (k : ∀ t, Qp (.bool b) { s with toks := t }) : wpAny S.M A (compareOp (copOf op) x y) Qp Ep s := by
  have q : ∀ {a : Bool}, some a = some b → Qp (.bool a) s := fun e => some_q (Q := fun b => Qp (.bool b) s) e (k s.toks)
  cases op with
  | eq => exact prim_eq hu sr ar hv hw hb (k s.toks)
  | ne => exact prim_ne hu sr ar hv hw hb (k s.toks)
  | lt => exact vr_II (C := fun x y => wpAny S.M A (compareOp .Lt x y) Qp Ep s) hv hw hb fun i t j u hb => P.lt_int (q hb)
  | gt => exact vr_II (C := fun x y => wpAny S.M A (compareOp .Gt x y) Qp Ep s) hv hw hb fun i t j u hb => P.gt_int (q hb)
  | ge => exact vr_II (C := fun x y => wpAny S.M A (compareOp .GtE x y) Qp Ep s) hv hw hb fun i t j u hb => P.ge_int (q hb)
  | le =>
    cases hv with
    | int i t => exact vr_I (C := fun y => wpAny S.M A (compareOp .LtE (.int i t) y) Qp Ep s) hw hb fun j u hb => P.le_int (q hb)
    | str i t => exact vr_S (C := fun y => wpAny S.M A (compareOp .LtE (.str (St i) t) y) Qp Ep s) hw hb fun j u hb => P.le_str (q ((congrArg some (strLe_eq i j).symm).trans hb))
    | _ => exact nn hb
  | isin => exact prim_in c sr ar hv hw hb k
  | notin => exact some_n hb fun d hi e => notIn_of_in (prim_in (Qp := fun r s' => ∃ b, r = .bool b ∧ Qp (.bool (!b)) s') c sr ar hv hw hi fun t => ⟨d, rfl, e ▸ k t⟩)
  | is => exact vr_N (C := fun y => wpAny S.M A (compareOp .Is x y) Qp Ep s) hw hb fun hb => is_none (by rw [is_of hv hb]; exact k s.toks)
  | isnot => exact vr_N (C := fun y => wpAny S.M A (compareOp .IsNot x y) Qp Ep s) hw hb fun hb => some_n hb fun d hb e => isNot_none (by rw [is_of hv hb, ← e]; exact k s.toks)
end
end
-- A9
section
open PySem PySem.W PyProof.Rows PySem.Calls PySem.SeqAt
noncomputable def BCont (S : Sta) (L : Addr) (mc : Str → Option Value) (frs : Led) (ads : List Addr) (led : Led) (s : Shared) (Qb : Bool → Shared → Prop) (Ep : Value → Shared → Prop) : Rs V → Prop
  | .ok v H' => match truth v with
    | some b => ∀ h' tk' ads' led', SR S.c L mc led' frs h' → AR S.c ads' H' led' → Ext S.c ads led ads' led' → Qb b { s with heap := h', toks := tk' }
    | none => False
  | .exc p H' => ∀ e h' tk' ads' led' frs', SlotUp frs frs' → SR S.c L mc led' frs' h' → AR S.c ads' H' led' → Ext S.c ads led ads' led' → Flies S L ads' led' frs' h' p e none → Ep (.ref e) { s with heap := h', toks := tk' }
  | .stuck => False
section
variable {S : Sta} {L : Addr} {mc : Str → Option Value} {frs : Led} {ads ads1 : List Addr} {led led1 : Led} {s : Shared} {Qp' Ep : Value → Shared → Prop} {Qb Qb' : Bool → Shared → Prop} {h1 : Heap} {t1 : Nat}
theorem BCont.ok_of {v : V} {H' : Hp} {b : Bool} (hb : truth v = some b) (k : BCont S L mc frs ads led s Qb Ep (.ok v H')) : ∀ h' tk' ads' led', SR S.c L mc led' frs h' → AR S.c ads' H' led' → Ext S.c ads led ads' led' → Qb b { s with heap := h', toks := tk' } := by
  simp only [BCont, hb] at k; exact k
theorem BCont.of_ok {v : V} {H' : Hp} {b : Bool} (hb : truth v = some b) (k : ∀ h' tk' ads' led', SR S.c L mc led' frs h' → AR S.c ads' H' led' → Ext S.c ads led ads' led' → Qb b { s with heap := h', toks := tk' }) : BCont S L mc frs ads led s Qb Ep (.ok v H') := by
  simp only [BCont, hb]; exact k
theorem BCont.no {v : V} {H' : Hp} (hb : truth v = none) (k : BCont S L mc frs ads led s Qb Ep (.ok v H')) : False := by
  simp only [BCont, hb] at k
theorem BCont.step {r : Rs V} (k : BCont S L mc frs ads led s Qb Ep r) (e : Ext S.c ads led ads1 led1) : BCont S L mc frs ads1 led1 { s with heap := h1, toks := t1 } Qb Ep r := by
  cases r with
  | ok v H' =>
    cases hb : truth v with
    | none => exact (k.no hb).elim
    | some b => exact .of_ok hb fun h' tk' ads' led' sr ar ex => k.ok_of hb h' tk' ads' led' sr ar (e.trans ex)
  | exc p H' => exact fun x h' tk' ads' led' frs' su sr ar ex fl => k x h' tk' ads' led' frs' su sr ar (e.trans ex) fl
  | stuck => exact k
/-- a value's continuation, its truth asked behind -/
theorem BCont.val {r : Rs V} {f : V → Hp → Rs V} (k : BCont S L mc frs ads led s Qb Ep (r.bind f))
    (g : ∀ v H1 x h1 t1 ads1 led1, r = .ok v H1 → SR S.c L mc led1 frs h1 → AR S.c ads1 H1 led1 → Ext S.c ads led ads1 led1 → VR S.c.hf (Im S.c ads1 led1) ads1 v x →
      BCont S L mc frs ads1 led1 { s with heap := h1, toks := t1 } Qb Ep (f v H1) → Qp' x { s with heap := h1, toks := t1 }) : ECont S L mc frs ads led s Qp' Ep r := by
  cases r with
  | ok v H1 => exact fun x h' tk' ads' led' sr ar ex vr => g v H1 x h' tk' ads' led' rfl sr ar ex vr (BCont.step (r := f v H1) k ex)
  | exc p H' => exact k
  | stuck => exact k
/-- a test's continuation -/
theorem BCont.bind {r : Rs V} {f : V → Hp → Rs V} (k : BCont S L mc frs ads led s Qb Ep (r.bind f)) (hb : ∀ v H1, r = .ok v H1 → ∃ b, truth v = some b)
    (g : ∀ v H1 b h1 t1 ads1 led1, r = .ok v H1 → truth v = some b → SR S.c L mc led1 frs h1 → AR S.c ads1 H1 led1 → Ext S.c ads led ads1 led1 →
      BCont S L mc frs ads1 led1 { s with heap := h1, toks := t1 } Qb Ep (f v H1) → Qb' b { s with heap := h1, toks := t1 }) : BCont S L mc frs ads led s Qb' Ep r := by
  cases r with
  | ok v H1 =>
    obtain ⟨b, e⟩ := hb v H1 rfl
    exact .of_ok e fun h' tk' ads' led' sr ar ex => g v H1 b h' tk' ads' led' rfl e sr ar ex (BCont.step (r := f v H1) k ex)
  | exc p H' => exact k
  | stuck => exact k
theorem BCont.fin {v : V} {H1 : Hp} {b : Bool} (k : BCont S L mc frs ads led s Qb Ep (.ok v H1)) (hb : truth v = some b) (sr : SR S.c L mc led1 frs h1) (ar : AR S.c ads1 H1 led1) (e : Ext S.c ads led ads1 led1) :
    Qb b { s with heap := h1, toks := t1 } := k.ok_of hb h1 t1 ads1 led1 sr ar e
/-- a test behind a value's evaluation -/
theorem ECont.test {r : Rs V} {f : V → Hp → Rs V} {Qp : Value → Shared → Prop} (k : ECont S L mc frs ads led s Qp Ep (r.bind f)) (hb : ∀ v H1, r = .ok v H1 → ∃ b, truth v = some b)
    (g : ∀ v H1 b h1 t1 ads1 led1, r = .ok v H1 → truth v = some b → SR S.c L mc led1 frs h1 → AR S.c ads1 H1 led1 → Ext S.c ads led ads1 led1 →
      ECont S L mc frs ads1 led1 { s with heap := h1, toks := t1 } Qp Ep (f v H1) → Qb' b { s with heap := h1, toks := t1 }) : BCont S L mc frs ads led s Qb' Ep r := by
  cases r with
  | ok v H1 =>
    obtain ⟨b, e⟩ := hb v H1 rfl
    exact .of_ok e fun h' tk' ads' led' sr ar ex => g v H1 b h' tk' ads' led' rfl e sr ar ex (ECont.step (r := f v H1) k ex)
  | exc p H' => exact k
  | stuck => exact k
end
noncomputable def TestOK (S : Sta) (n : Nat) (ck : Ck) (x : Expr) (d : Loc → Hp → Rs V) : Prop :=
  ∀ {A : Around} {stk : List Env} {env : Env} {L : Addr} {mc : Str → Option Value} {led frs : Led} {ads : List Addr} {m : Loc} {H : Hp} {s : Shared} {Qb : Bool → Shared → Prop} {Ep : Value → Shared → Prop},
    Here S n ck A stk env L mc led frs ads m H s → BCont S L mc frs ads led s Qb Ep (d m H) → wpAny S.M A (isTrue x env (eval x env)) Qb Ep s
theorem truthy_of {S : Sta} {A : Around} {s : Shared} {Qb : Bool → Shared → Prop} {Ep : Value → Shared → Prop} {P : Addr → Obj → Prop} {hf : Str → Int} {ads : List Addr} {v : V} {x : Value} {b : Bool}
    (hv : VR hf P ads v x) (ht : truth v = some b) (h : Qb b s) : wpAny S.M A (truthy x) Qb Ep s := by
  cases v <;> simp only [truth, reduceCtorEq, Option.some.injEq] at ht
  subst ht
  cases hv
  exact wpAny_truthy_bool h
theorem rsbind_ok {α : Type} (r : Rs α) : r.bind (fun a H => .ok a H) = r := by cases r <;> rfl
section
variable {S : Sta} {n : Nat} {ck : Ck}
theorem test_value {x : Expr} {d : Loc → Hp → Rs V} (h : EvalOK S n ck x d) (he : ∀ env whole, isTrue x env whole = (do let v ← whole; standAt x.pos; holding [v] (truthy v))) : TestOK S n ck x d := by
  intro A stk env L mc led frs ads m H s Qb Ep hh k
  refine wpAny_isTrue_value ?_ (he _ _)
  rw [← rsbind_ok (d m H)] at k
  refine h hh (k.val fun v H1 y h1 t1 ads1 led1 e sr ar ex vr k1 => ?_)
  cases hb : truth v with
  | none => exact (k1.no hb).elim
  | some b => exact truthy_of vr hb (k1.fin (t1 := t1) hb sr ar .refl)
theorem ok_cmp {op : Cop} {x y : Expr} {pos : Pos} {da db : Loc → Hp → Rs V} (c : S.c.Ok) (ha : EvalOK S n ck x da) (hb : EvalOK S n ck y db) (hm : behindInMarks (copOf op) y = false) :
    EvalOK S n ck (.Compare x [copOf op] [y] pos) (fun m H => (da m H).bind fun v H1 => (db m H1).bind fun w H2 => Rs.of ((cmpV H2 op v w).map .bool) H2) := by
  intro A stk env L mc led frs ads m H s Qp Ep h k
  dsimp only at k
  refine wpAny_Compare1 (ha h (k.bind fun v H1 xv h1 t1 ads1 led1 _ sr1 ar1 ex1 vr1 k1 => hb (h.step sr1 ar1 ex1) (k1.bind fun w H2 yv h2 t2 ads2 led2 _ sr2 ar2 ex2 vr2 k2 => ?_))) hm
  cases hc : cmpV H2 op v w with
  | none => simp only [hc, Option.map_none] at k2; exact k2.elim
  | some b =>
    simp only [hc, Option.map_some] at k2
    exact prim_cmp c (by have := h.units; omega) sr2 ar2 (ex2.vr vr1) vr2 hc fun t => k2.fin0 (t1 := t) sr2 ar2 (.bool b)
theorem test_cmp {op : Cop} {x y : Expr} {pos : Pos} {da db : Loc → Hp → Rs V} (c : S.c.Ok) (ha : EvalOK S n ck x da) (hb : EvalOK S n ck y db) (hm : behindInMarks (copOf op) y = false) :
    TestOK S n ck (.Compare x [copOf op] [y] pos) (fun m H => (da m H).bind fun v H1 => (db m H1).bind fun w H2 => Rs.of ((cmpV H2 op v w).map .bool) H2) := by
  intro A stk env L mc led frs ads m H s Qb Ep h k
  dsimp only at k
  refine wpAny_isTrue_Compare1 (ha h (k.val fun v H1 xv h1 t1 ads1 led1 _ sr1 ar1 ex1 vr1 k1 => hb (h.step sr1 ar1 ex1) (k1.val fun w H2 yv h2 t2 ads2 led2 _ sr2 ar2 ex2 vr2 k2 => ?_))) hm
  cases hc : cmpV H2 op v w with
  | none => simp only [hc, Option.map_none] at k2; exact k2.elim
  | some b =>
    simp only [hc, Option.map_some] at k2
    exact prim_cmp c (by have := h.units; omega) sr2 ar2 (ex2.vr vr1) vr2 hc fun t => wpAny_truthy_bool (k2.fin (h1 := h2) (t1 := t) rfl sr2 ar2 .refl)
theorem chain_two {pos : Pos} {l : Value} {o1 o2 : CmpOp} {r1 r2 : Sem Value} : testChain pos l [o1, o2] [r1, r2] = (do
    let rv ← holding [l] r1
    standAt pos
    let c ← holding [l, rv] (compareOp o1 l rv)
    release [l, rv] [c]
    if ← holding [c, rv] (truthy c) then testChain pos rv [o2] [r2] else pure false) := rfl
theorem chain_one {pos : Pos} {l : Value} {o : CmpOp} {r : Sem Value} : testChain pos l [o] [r] = (do
    let rv ← holding [l] r
    standAt pos
    let c ← operate [l, rv] (compareOp o l rv)
    holding [c] (truthy c)) := rfl
theorem testChain2 {M : Model} {A : Around} {Ep : Value → Shared → Prop} {s : Shared} {pos : Pos} {l : Value} {o1 o2 : CmpOp} {r1 r2 : Sem Value} {Qb : Bool → Shared → Prop}
    (h : wpAny M A r1 (fun v s1 => wpAny M A (compareOp o1 l v) (fun x s2 => wpAny M A (truthy x) (fun b s3 => if b then wpAny M A r2 (fun w s4 => wpAny M A (compareOp o2 v w) (fun y s5 => wpAny M A (truthy y) Qb Ep s5) Ep s4) Ep s3 else Qb false s3) Ep s2) Ep s1) Ep s) :
    wpAny M A (testChain pos l [o1, o2] [r1, r2]) Qb Ep s := by
  rw [chain_two]
  refine wpAny_bind (wpAny_holding (wpAny_mono h (fun v s1 h1 => ?_) fun _ _ e => e))
  refine wpAny_bind (wpAny_standAt (wpAny_bind (wpAny_holding (wpAny_mono h1 (fun x s2 h2 => ?_) fun _ _ e => e))))
  refine wpAny_bind (wpAny_releaseD (wpAny_bind (wpAny_holding (wpAny_mono h2 (fun b s3 h3 => ?_) fun _ _ e => e))))
  cases b with
  | false => exact wpAny_pure h3
  | true =>
    simp only [if_true] at h3 ⊢
    rw [chain_one]
    refine wpAny_bind (wpAny_holding (wpAny_mono h3 (fun w s4 h4 => ?_) fun _ _ e => e))
    refine wpAny_bind (wpAny_standAt (wpAny_bind (wpAny_operateT (wpAny_mono h4 (fun y s5 h5 => wpAny_holding h5) fun _ _ e => e))))
theorem test_cmp2 {o1 o2 : Cop} {x y z : Expr} {pos : Pos} {da db dc : Loc → Hp → Rs V} (c : S.c.Ok) (ha : EvalOK S n ck x da) (hb : EvalOK S n ck y db) (hc : EvalOK S n ck z dc) (hm : behindInMarks (copOf o2) z = false) :
    TestOK S n ck (.Compare x [copOf o1, copOf o2] [y, z] pos) (fun m H => (da m H).bind fun v H1 => (db m H1).bind fun w H2 => match cmpV H2 o1 v w with
      | some true => (dc m H2).bind fun z H3 => Rs.of ((cmpV H3 o2 w z).map .bool) H3
      | some false => .ok (.bool false) H2
      | none => .stuck) := by
  intro A stk env L mc led frs ads m H s Qb Ep h k
  dsimp only at k
  have e : isTrue (.Compare x [copOf o1, copOf o2] [y, z] pos) env (eval (.Compare x [copOf o1, copOf o2] [y, z] pos) env) = (do testChain pos (← eval x env) [copOf o1, copOf o2] [eval y env, markedBehindIn (copOf o2) z (eval z env)]) := rfl
  rw [e, markedBehindIn_of_false hm]
  refine wpAny_bind (ha h (k.val fun v H1 xv h1 t1 ads1 led1 _ sr1 ar1 ex1 vr1 k1 => testChain2 (hb (h.step sr1 ar1 ex1) (k1.val fun w H2 yv h2 t2 ads2 led2 _ sr2 ar2 ex2 vr2 k2 => ?_))))
  have hu : A.units + 64 < cLine := by have := h.units; omega
  cases hc1 : cmpV H2 o1 v w with
  | none => simp only [hc1] at k2; exact k2.elim
  | some b =>
    refine prim_cmp c hu sr2 ar2 (ex2.vr vr1) vr2 hc1 fun t => wpAny_truthy_bool ?_
    cases b with
    | false =>
      simp only [hc1] at k2
      exact k2.fin (h1 := h2) (t1 := t) rfl sr2 ar2 .refl
    | true =>
      simp only [hc1] at k2
      simp only [if_true]
      refine hc (((h.step (tk' := t1) sr1 ar1 ex1).step (tk' := t2) sr2 ar2 ex2).step (tk' := t) sr2 ar2 .refl) ((k2.step (h1 := h2) (t1 := t) .refl).val fun u H3 zv h3 t3 ads3 led3 _ sr3 ar3 ex3 vr3 k3 => ?_)
      cases hc2 : cmpV H3 o2 w u with
      | none => simp only [hc2, Option.map_none] at k3; exact k3.elim
      | some b =>
        simp only [hc2, Option.map_some] at k3
        exact prim_cmp c hu sr3 ar3 (ex3.vr vr2) vr3 hc2 fun t => wpAny_truthy_bool (k3.fin (h1 := h3) (t1 := t) rfl sr3 ar3 .refl)
theorem test_not {x : Expr} {pos : Pos} {d : Loc → Hp → Rs V} (h : TestOK S n ck x d) : TestOK S n ck (.UnaryOp .Not x pos) (fun m H => (d m H).bind fun v H1 => Rs.of ((truth v).map fun b => .bool (!b)) H1) := by
  intro A stk env L mc led frs ads m H s Qb Ep hh k
  dsimp only at k
  refine wpAny_isTrue_Not (h hh ?_)
  refine k.bind (fun v H1 e => ?_) fun v H1 b h1 t1 ads1 led1 e hb sr ar ex k1 => ?_
  · rw [e] at k
    cases hb : truth v with
    | none => simp only [Rs.bind, hb, Option.map_none] at k; exact k.elim
    | some b => exact ⟨b, rfl⟩
  · simp only [hb, Option.map_some] at k1
    exact k1.fin (h1 := h1) (t1 := t1) rfl sr ar .refl
theorem ok_not {x : Expr} {pos : Pos} {d : Loc → Hp → Rs V} (h : EvalOK S n ck x d) : EvalOK S n ck (.UnaryOp .Not x pos) (fun m H => (d m H).bind fun v H1 => Rs.of ((truth v).map fun b => .bool (!b)) H1) := by
  intro A stk env L mc led frs ads m H s Qp Ep hh k
  dsimp only at k
  refine wpAny_UnaryOp (h hh (k.bind fun v H1 y h1 t1 ads1 led1 _ sr ar ex vr k1 => not_value ?_))
  cases hb : truth v with
  | none => simp only [hb, Option.map_none] at k1; exact k1.elim
  | some b =>
    simp only [hb, Option.map_some] at k1
    exact truthy_of vr hb (k1.fin0 (t1 := t1) sr ar (.bool _))
theorem test_and {x y : Expr} {pos : Pos} {da db : Loc → Hp → Rs V} (ha : TestOK S n ck x da) (hb : TestOK S n ck y db) : TestOK S n ck (.BoolOp .And [x, y] pos) (fun m H => (da m H).bind fun v H1 => match truth v with
    | some true => db m H1
    | some false => .ok v H1
    | none => .stuck) := by
  intro A stk env L mc led frs ads m H s Qb Ep h k
  dsimp only at k
  refine wpAny_isTrue_BoolOp (wpAny_allTrue_And_cons (ha h ?_))
  refine k.bind (fun v H1 e => ?_) fun v H1 b h1 t1 ads1 led1 e hb' sr ar ex k1 => ?_
  · rw [e] at k
    cases hb : truth v with
    | none => simp only [Rs.bind, hb] at k; exact k.elim
    | some b => exact ⟨b, rfl⟩
  · cases b with
    | false => simp only [hb'] at k1; exact k1.fin (h1 := h1) (t1 := t1) hb' sr ar .refl
    | true =>
      simp only [hb'] at k1
      simp only [if_true]
      refine wpAny_allTrue_And_cons (hb (h.step sr ar ex) ?_)
      rw [← rsbind_ok (db m H1)] at k1
      refine k1.bind (fun w H2 e => ?_) fun w H2 b h2 t2 ads2 led2 e hb2 sr2 ar2 ex2 k2 => ?_
      · rw [e] at k1
        cases hb : truth w with
        | none => exact (BCont.no (H' := H2) hb k1).elim
        | some b => exact ⟨b, rfl⟩
      · have q := k2.fin (h1 := h2) (t1 := t2) hb2 sr2 ar2 .refl
        cases b with
        | false => exact q
        | true => exact wpAny_allTrue_And_nil q
theorem test_or {x y : Expr} {pos : Pos} {da db : Loc → Hp → Rs V} (ha : TestOK S n ck x da) (hb : TestOK S n ck y db) : TestOK S n ck (.BoolOp .Or [x, y] pos) (fun m H => (da m H).bind fun v H1 => match truth v with
    | some true => .ok v H1
    | some false => db m H1
    | none => .stuck) := by
  intro A stk env L mc led frs ads m H s Qb Ep h k
  dsimp only at k
  refine wpAny_isTrue_BoolOp (wpAny_allTrue_Or_cons (ha h ?_))
  refine k.bind (fun v H1 e => ?_) fun v H1 b h1 t1 ads1 led1 e hb' sr ar ex k1 => ?_
  · rw [e] at k
    cases hb : truth v with
    | none => simp only [Rs.bind, hb] at k; exact k.elim
    | some b => exact ⟨b, rfl⟩
  · cases b with
    | true => simp only [hb'] at k1; exact k1.fin (h1 := h1) (t1 := t1) hb' sr ar .refl
    | false =>
      simp only [hb'] at k1
      simp only [Bool.false_eq_true, if_false]
      refine wpAny_allTrue_Or_cons (hb (h.step sr ar ex) ?_)
      rw [← rsbind_ok (db m H1)] at k1
      refine k1.bind (fun w H2 e => ?_) fun w H2 b h2 t2 ads2 led2 e hb2 sr2 ar2 ex2 k2 => ?_
      · rw [e] at k1
        cases hb : truth w with
        | none => exact (BCont.no (H' := H2) hb k1).elim
        | some b => exact ⟨b, rfl⟩
      · have q := k2.fin (h1 := h2) (t1 := t2) hb2 sr2 ar2 .refl
        cases b with
        | true => exact q
        | false => exact wpAny_allTrue_Or_nil q
theorem ok_and {x y : Expr} {pos : Pos} {da db : Loc → Hp → Rs V} (ha : EvalOK S n ck x da) (hb : EvalOK S n ck y db) : EvalOK S n ck (.BoolOp .And [x, y] pos) (fun m H => (da m H).bind fun v H1 => match truth v with
    | some true => db m H1
    | some false => .ok v H1
    | none => .stuck) := by
  intro A stk env L mc led frs ads m H s Qp Ep h k
  dsimp only at k
  refine wpAny_And2 (ha h (k.bind fun v H1 y h1 t1 ads1 led1 _ sr ar ex vr k1 => ?_))
  cases hb' : truth v with
  | none => simp only [hb'] at k1; exact k1.elim
  | some b =>
    refine truthy_of vr hb' ?_
    cases b with
    | false => simp only [hb'] at k1; exact k1.fin (h1 := h1) (t1 := t1) sr ar .refl vr
    | true => simp only [hb'] at k1; exact hb (h.step sr ar ex) k1
theorem ok_or {x y : Expr} {pos : Pos} {da db : Loc → Hp → Rs V} (ha : EvalOK S n ck x da) (hb : EvalOK S n ck y db) : EvalOK S n ck (.BoolOp .Or [x, y] pos) (fun m H => (da m H).bind fun v H1 => match truth v with
    | some true => .ok v H1
    | some false => db m H1
    | none => .stuck) := by
  intro A stk env L mc led frs ads m H s Qp Ep h k
  dsimp only at k
  refine wpAny_Or2 (ha h (k.bind fun v H1 y h1 t1 ads1 led1 _ sr ar ex vr k1 => ?_))
  cases hb' : truth v with
  | none => simp only [hb'] at k1; exact k1.elim
  | some b =>
    refine truthy_of vr hb' ?_
    cases b with
    | true => simp only [hb'] at k1; exact k1.fin (h1 := h1) (t1 := t1) sr ar .refl vr
    | false => simp only [hb'] at k1; exact hb (h.step sr ar ex) k1
theorem ok_ite {t x y : Expr} {pos : Pos} {dt da db : Loc → Hp → Rs V} (ht : TestOK S n ck t dt) (ha : EvalOK S n ck x da) (hb : EvalOK S n ck y db) : EvalOK S n ck (.IfExp t x y pos) (fun m H => (dt m H).bind fun v H1 => match truth v with
    | some true => da m H1
    | some false => db m H1
    | none => .stuck) := by
  intro A stk env L mc led frs ads m H s Qp Ep h k
  dsimp only at k
  refine IfExp_ (ht h ?_)
  refine k.test (fun v H1 e => ?_) fun v H1 b h1 t1 ads1 led1 e hb' sr ar ex k1 => ?_
  · rw [e] at k
    cases hb : truth v with
    | none => simp only [Rs.bind, hb] at k; exact k.elim
    | some b => exact ⟨b, rfl⟩
  · cases b with
    | true => simp only [hb'] at k1; exact ha (h.step sr ar ex) k1
    | false => simp only [hb'] at k1; exact hb (h.step sr ar ex) k1
theorem ok_bin {op : Bop} {x y : Expr} {pos : Pos} {da db : Loc → Hp → Rs V} (ha : EvalOK S n ck x da) (hb : EvalOK S n ck y db) :
    EvalOK S n ck (.BinOp x (opOf op) y pos) (fun m H => (da m H).bind fun v H1 => (db m H1).bind fun w H2 => Rs.of (binV op v w) H2) := by
  intro A stk env L mc led frs ads m H s Qp Ep h k
  dsimp only at k
  exact wpAny_BinOp (ha h (k.bind fun v H1 xv h1 t1 ads1 led1 _ sr1 ar1 ex1 vr1 k1 => hb (h.step sr1 ar1 ex1) (k1.bind fun w H2 yv h2 t2 ads2 led2 _ sr2 ar2 ex2 vr2 k2 => prim_bin sr2 ar2 (ex2.vr vr1) vr2 k2)))
end
end
-- A10
section
open PySem PySem.W PyProof.Rows PySem.Calls PySem.SeqAt
section
variable {c : Cx} {L : Addr} {mc : Str → Option Value} {led frs : Led} {h h' : Heap} {ads : List Addr} {H : Hp}
theorem SR.same {d : Addr} {o o' : Obj} (x : SR c L mc led frs h) (hm : (d, o) ∈ led) (hs : Heap.SameBut d h h') (ho : h'.get? d = some o') : SR c L mc (updL d o' led) frs h' := by
  have N := x.nw.update (List.mem_append_left frs hm) hs ho
  refine x.updated (x.fr.update x.nw (List.mem_append_left frs hm) hs) ?_
  have e : (led ++ frs).map (fun p => if p.1 = d then (d, o') else p) = updL d o' led ++ frs := by
    show updL d o' (led ++ frs) = _
    rw [updL_append, updL_off (x.off hm)]
  rw [e] at N; exact N
/-- what stood aside joins the ledger, changed -/
theorem SR.join {d : Addr} {o o' : Obj} (x : SR c L mc led ((d, o) :: frs) h) (hs : Heap.SameBut d h h') (ho : h'.get? d = some o') : SR c L mc ((d, o') :: led) frs h' := by
  have hm : (d, o) ∈ led ++ (d, o) :: frs := List.mem_append_right _ List.mem_cons_self
  have N := x.nw.update hm hs ho
  have hn : d ∉ (led ++ frs).map (·.1) := by
    have := x.nd
    rw [List.map_append, List.map_cons, List.nodup_append, List.nodup_cons] at this
    rw [List.map_append, List.mem_append]
    rintro (q | q)
    · exact this.2.2 d q d List.mem_cons_self rfl
    · exact this.2.1.1 q
  refine ⟨x.fr.update x.nw hm hs, fun p hp => ?_, ?_⟩
  · rw [List.cons_append] at hp
    rcases List.mem_cons.mp hp with rfl | hp
    · exact N (d, o') (List.mem_map.mpr ⟨_, hm, by simp⟩)
    · have hne : p.1 ≠ d := fun e => hn (e ▸ List.mem_map_of_mem (f := (·.1)) hp)
      refine N p (List.mem_map.mpr ⟨p, ?_, by rw [if_neg hne]⟩)
      rcases List.mem_append.mp hp with q | q
      · exact List.mem_append_left _ q
      · exact List.mem_append_right _ (List.mem_cons_of_mem _ q)
  · rw [List.cons_append, List.map_cons, List.nodup_cons]
    refine ⟨hn, ?_⟩
    have := x.nd
    rw [List.map_append, List.map_cons, List.nodup_append, List.nodup_cons] at this
    rw [List.map_append, List.nodup_append]
    exact ⟨this.1, this.2.1.2, fun a ha b hb => this.2.2 a ha b (List.mem_cons_of_mem _ hb)⟩
theorem SR.drop {p : Addr × Obj} (x : SR c L mc led (p :: frs) h) : SR c L mc led frs h := by
  refine ⟨x.fr, fun q hq => x.nw q ?_, ?_⟩
  · rcases List.mem_append.mp hq with q | q
    · exact List.mem_append_left _ q
    · exact List.mem_append_right _ (List.mem_cons_of_mem _ q)
  · have := x.nd
    rw [List.map_append, List.map_cons, List.nodup_append, List.nodup_cons] at this
    rw [List.map_append, List.nodup_append]
    exact ⟨this.1, this.2.1.2, fun a ha b hb => this.2.2 a ha b (List.mem_cons_of_mem _ hb)⟩
theorem fresh_ads {k : Addr} (x : SR c L mc led frs h) (ar : AR c ads H led) (hk : h.objs.size ≤ k) : k ∉ ads := fun hm => by
  obtain ⟨i, hi⟩ := List.mem_iff_getElem?.mp hm
  have hl : i < H.length := by rw [← ar.len]; exact (List.getElem?_eq_some_iff.mp hi).1
  obtain ⟨b', z, q1, q2, _⟩ := ar.ob i H[i] (List.getElem?_eq_getElem hl)
  rw [hi] at q1; cases q1
  exact absurd (x.lt q2) (by simpa using hk)
theorem fresh_led {k : Addr} (x : SR c L mc led frs h) (hk : h.objs.size ≤ k) : k ∉ led.map (·.1) := fun hm => by
  obtain ⟨p, hp, e⟩ := List.mem_map.mp hm
  have := x.lt hp
  rw [e] at this
  exact absurd this (by simpa using hk)
end
noncomputable def LCont (S : Sta) (L : Addr) (mc : Str → Option Value) (frs : Led) (ads : List Addr) (led : Led) (s : Shared) (Ql : List Value → Shared → Prop) (Ep : Value → Shared → Prop) : Rs (List V) → Prop
  | .ok vs H' => ∀ xs h' tk' ads' led', SR S.c L mc led' frs h' → AR S.c ads' H' led' → Ext S.c ads led ads' led' → VRs S.c.hf (Im S.c ads' led') ads' vs xs → Ql xs { s with heap := h', toks := tk' }
  | .exc p H' => ∀ e h' tk' ads' led' frs', SlotUp frs frs' → SR S.c L mc led' frs' h' → AR S.c ads' H' led' → Ext S.c ads led ads' led' → Flies S L ads' led' frs' h' p e none → Ep (.ref e) { s with heap := h', toks := tk' }
  | .stuck => False
section
variable {S : Sta} {L : Addr} {mc : Str → Option Value} {frs : Led} {ads ads1 : List Addr} {led led1 : Led} {s : Shared} {Qp Qp' Ep : Value → Shared → Prop} {Ql Ql' : List Value → Shared → Prop} {h1 : Heap} {t1 : Nat}
theorem LCont.step {r : Rs (List V)} (k : LCont S L mc frs ads led s Ql Ep r) (e : Ext S.c ads led ads1 led1) : LCont S L mc frs ads1 led1 { s with heap := h1, toks := t1 } Ql Ep r := by
  cases r with
  | ok v H' => exact fun x h' tk' ads' led' sr ar ex vr => k x h' tk' ads' led' sr ar (e.trans ex) vr
  | exc p H' => exact fun x h' tk' ads' led' frs' su sr ar ex fl => k x h' tk' ads' led' frs' su sr ar (e.trans ex) fl
  | stuck => exact k
theorem LCont.ebind {r : Rs V} {f : V → Hp → Rs (List V)} (k : LCont S L mc frs ads led s Ql Ep (r.bind f))
    (g : ∀ v H1 x h1 t1 ads1 led1, r = .ok v H1 → SR S.c L mc led1 frs h1 → AR S.c ads1 H1 led1 → Ext S.c ads led ads1 led1 → VR S.c.hf (Im S.c ads1 led1) ads1 v x →
      LCont S L mc frs ads1 led1 { s with heap := h1, toks := t1 } Ql Ep (f v H1) → Qp' x { s with heap := h1, toks := t1 }) : ECont S L mc frs ads led s Qp' Ep r := by
  cases r with
  | ok v H1 => exact fun x h' tk' ads' led' sr ar ex vr => g v H1 x h' tk' ads' led' rfl sr ar ex vr (LCont.step (r := f v H1) k ex)
  | exc p H' => exact k
  | stuck => exact k
theorem LCont.lbind {r : Rs (List V)} {f : List V → Hp → Rs (List V)} (k : LCont S L mc frs ads led s Ql Ep (r.bind f))
    (g : ∀ v H1 x h1 t1 ads1 led1, r = .ok v H1 → SR S.c L mc led1 frs h1 → AR S.c ads1 H1 led1 → Ext S.c ads led ads1 led1 → VRs S.c.hf (Im S.c ads1 led1) ads1 v x →
      LCont S L mc frs ads1 led1 { s with heap := h1, toks := t1 } Ql Ep (f v H1) → Ql' x { s with heap := h1, toks := t1 }) : LCont S L mc frs ads led s Ql' Ep r := by
  cases r with
  | ok v H1 => exact fun x h' tk' ads' led' sr ar ex vr => g v H1 x h' tk' ads' led' rfl sr ar ex vr (LCont.step (r := f v H1) k ex)
  | exc p H' => exact k
  | stuck => exact k
theorem ECont.lbind {r : Rs (List V)} {f : List V → Hp → Rs V} (k : ECont S L mc frs ads led s Qp Ep (r.bind f))
    (g : ∀ v H1 x h1 t1 ads1 led1, r = .ok v H1 → SR S.c L mc led1 frs h1 → AR S.c ads1 H1 led1 → Ext S.c ads led ads1 led1 → VRs S.c.hf (Im S.c ads1 led1) ads1 v x →
      ECont S L mc frs ads1 led1 { s with heap := h1, toks := t1 } Qp Ep (f v H1) → Ql x { s with heap := h1, toks := t1 }) : LCont S L mc frs ads led s Ql Ep r := by
  cases r with
  | ok v H1 => exact fun x h' tk' ads' led' sr ar ex vr => g v H1 x h' tk' ads' led' rfl sr ar ex vr (ECont.step (r := f v H1) k ex)
  | exc p H' => exact k
  | stuck => exact k
theorem ECont.lonly {L' : Addr} {mc' : Str → Option Value} {frs' : Led} {Ep' : Value → Shared → Prop} {h0 : Heap} {t0 : Nat} {r : Rs (List V)} {f : List V → Hp → Rs V} (k : ECont S L mc frs ads led s Qp Ep (r.only f))
    (g : ∀ v H1 x h1 t1 ads1 led1, r = .ok v H1 → SR S.c L' mc' led1 frs' h1 → AR S.c ads1 H1 led1 → Ext S.c ads led ads1 led1 → VRs S.c.hf (Im S.c ads1 led1) ads1 v x →
      ECont S L mc frs ads1 led1 { s with heap := h1, toks := t1 } Qp Ep (f v H1) → Ql x { s with heap := h1, toks := t1 }) : LCont S L' mc' frs' ads led { s with heap := h0, toks := t0 } Ql Ep' r := by
  cases r with
  | ok v H1 => exact fun x h' tk' ads' led' sr ar ex vr => g v H1 x h' tk' ads' led' rfl sr ar ex vr (ECont.step (r := f v H1) k ex)
  | exc p H' => exact (show False from k).elim
  | stuck => exact (show False from k).elim
theorem LCont.fin0 {H : Hp} (k : LCont S L mc frs ads led s Ql Ep (.ok [] H)) (sr : SR S.c L mc led frs s.heap) (ar : AR S.c ads H led) : Ql [] s := k [] s.heap s.toks ads led sr ar .refl .nil
end
structure EvalsOK (S : Sta) (n : Nat) (ck : Ck) (xs : List Expr) (d : Loc → Hp → Rs (List V)) : Prop where
  none : xs = [] → ∀ m H, d m H = .ok [] H
  len : ∀ {m : Loc} {H : Hp} {vs : List V} {H1 : Hp}, d m H = .ok vs H1 → vs.length = xs.length
  run : ∀ {A : Around} {stk : List Env} {env : Env} {L : Addr} {mc : Str → Option Value} {led frs : Led} {ads : List Addr} {m : Loc} {H : Hp} {s : Shared} {Ql : List Value → Shared → Prop} {Ep : Value → Shared → Prop} {pos : Pos},
    Here S n ck A stk env L mc led frs ads m H s → LCont S L mc frs ads led s Ql Ep (d m H) → wpAny S.M A (spliced (backTo pos (starEach xs env))) Ql Ep s
/-- the pairs of a display, its keys texts -/
inductive KP : List (List Nat) → List (Value × Value) → List Value → Prop where
  | nil : KP [] [] []
  | cons {k : List Nat} {t : Tok} {x : Value} {ks : List (List Nat)} {ps : List (Value × Value)} {xs : List Value} : KP ks ps xs → KP (k :: ks) ((.str (St k) t, x) :: ps) (x :: xs)
noncomputable def PairsOK (S : Sta) (n : Nat) (ck : Ck) (ks : List (List Nat)) (keys : List (Option Expr)) (vals : List Expr) (d : Loc → Hp → Rs (List V)) : Prop :=
  ∀ {A : Around} {stk : List Env} {env : Env} {L : Addr} {mc : Str → Option Value} {led frs : Led} {ads : List Addr} {m : Loc} {H : Hp} {s : Shared} {Ql : List Value → Shared → Prop} {Ep : Value → Shared → Prop} {pos : Pos},
    Here S n ck A stk env L mc led frs ads m H s → LCont S L mc frs ads led s Ql Ep (d m H) → wpAny S.M A (evalPairs (pairTrees keys vals env pos)) (fun ps s' => ∃ xs, KP ks ps xs ∧ Ql xs s') Ep s
section
variable {S : Sta} {n : Nat} {ck : Ck}
theorem args_nil : EvalsOK S n ck [] (fun _ H => .ok [] H)   := ⟨fun _ _ _ => rfl, fun e => by cases e; rfl, fun h k => wpAny_items_nil (k.fin0 h.sr h.ar)⟩
theorem args_cons {x : Expr} {xs : List Expr} {d : Loc → Hp → Rs V} {ds : Loc → Hp → Rs (List V)} (hd : EvalOK S n ck x d) (hds : EvalsOK S n ck xs ds) (he : ∀ env, starEach (x :: xs) env = (false, eval x env) :: starEach xs env) :
    EvalsOK S n ck (x :: xs) (fun m H => (d m H).bind fun v H1 => (ds m H1).bind fun vs H2 => .ok (v :: vs) H2) where
  none := fun e => nomatch e
  len := by
    intro m H vs H1 e
    try dsimp only at e
    cases h1 : d m H with
    | ok v H2 =>
      rw [h1] at e
      simp only [Rs.bind] at e
      cases h2 : ds m H2 with
      | ok ws H3 =>
        rw [h2] at e
        cases e
        rw [List.length_cons, List.length_cons, hds.len h2]
      | _ => rw [h2] at e; cases e
    | _ => rw [h1] at e; cases e
  run := by
    intro A stk env L mc led frs ads m H s Ql Ep pos h k
    try dsimp only at k
    refine wpAny_items_cons (hd h (k.ebind fun v H1 xv h1 t1 ads1 led1 _ sr1 ar1 ex1 vr1 k1 => hds.run (h.step sr1 ar1 ex1) (k1.lbind fun vs H2 xs h2 t2 ads2 led2 _ sr2 ar2 ex2 vr2 k2 => ?_))) (he env)
    exact k2 _ _ _ _ _ sr2 ar2 .refl (.cons (ex2.vr vr1) vr2)
theorem ok_tup {elts : List Expr} {k : Nat} {pos : Pos} {ds : Loc → Hp → Rs (List V)} (h : EvalsOK S n ck elts ds) (hl : elts.length ≤ 100) : EvalOK S n ck (.Tuple elts k pos) (fun m H => (ds m H).bind fun vs H1 => .ok (.tup vs) H1) := by
  intro A stk env L mc led frs ads m H s Qp Ep hh k
  dsimp only at k
  refine Tuple_ (h.run hh (k.lbind fun vs H1 xs h1 t1 ads1 led1 e sr ar ex vr k1 => newTuple_N sr.fr sr.nw (fun h' F' N' => ?_) ?_))
  · exact k1.fin (t1 := t1) (sr.of_news F' N' fun p hp => Heap.lt_size (sr.nw p hp).1) ar.new ext_new (.tup (n := 0) (.inl ⟨List.mem_cons_self, fresh_ads sr ar (Nat.le_refl _)⟩) ((ext_new (c := S.c)).vrs vr))
  · rw [← vr.length, h.len e]
    exact Nat.le_trans (Nat.le_trans hl (by decide)) big_le
theorem ok_lst {elts : List Expr} {pos : Pos} {ds : Loc → Hp → Rs (List V)} (h : EvalsOK S n ck elts ds) (hl : elts.length ≤ 100) : EvalOK S n ck (.List elts pos) (fun m H => (ds m H).bind fun vs H1 => .ok (.lst vs) H1) := by
  intro A stk env L mc led frs ads m H s Qp Ep hh k
  dsimp only at k
  refine List_ (h.run hh (k.lbind fun vs H1 xs h1 t1 ads1 led1 e sr ar ex vr k1 => newList_N sr.fr sr.nw (fun h' F' N' => ?_) ?_))
  · exact k1.fin (t1 := t1) (sr.of_news F' N' fun p hp => Heap.lt_size (sr.nw p hp).1) ar.new ext_new (.lst (n := 0) (.inl ⟨List.mem_cons_self, fresh_ads sr ar (Nat.le_refl _)⟩) ((ext_new (c := S.c)).vrs vr))
  · rw [← vr.length, h.len e]
    exact Nat.le_trans (Nat.le_trans hl (by decide)) big_le
theorem ok_mlst {elts : List Expr} {pos : Pos} {ds : Loc → Hp → Rs (List V)} (h : EvalsOK S n ck elts ds) (hl : elts.length ≤ 100) : EvalOK S n ck (.List elts pos) (fun m H => (ds m H).bind fun vs H1 => .ok (.obj H1.length) (H1 ++ [.list vs])) := by
  intro A stk env L mc led frs ads m H s Qp Ep hh k
  dsimp only at k
  refine List_ (h.run hh (k.lbind fun vs H1 xs h1 t1 ads1 led1 e sr ar ex vr k1 => newList_N sr.fr sr.nw (fun h' F' N' => ?_) ?_))
  · have hn := fresh_led sr (Nat.le_refl _)
    refine k1.fin (t1 := t1) (sr.of_news F' N' fun p hp => Heap.lt_size (sr.nw p hp).1) (ar.newM hn (.list vr)) (ext_newM hn) (.obj ?_)
    rw [← ar.len, List.getElem?_append_right (Nat.le_refl _)]; simp
  · rw [← vr.length, h.len e]
    exact Nat.le_trans (Nat.le_trans hl (by decide)) big_le
theorem pairs_nil : PairsOK S n ck [] [] [] (fun _ H => .ok [] H) := fun h k => pairTrees_nil_walk ⟨[], .nil, k.fin0 h.sr h.ar⟩
theorem pairs_cons {ks : List (List Nat)} {k : List Nat} {kk : Nat} {kpos : Pos} {keys : List (Option Expr)} {x : Expr} {xs : List Expr} {d : Loc → Hp → Rs V} {ds : Loc → Hp → Rs (List V)} (hd : EvalOK S n ck x d) (hds : PairsOK S n ck ks keys xs ds) :
    PairsOK S n ck (k :: ks) (some (.Constant (.str (St k)) kk kpos) :: keys) (x :: xs) (fun m H => (d m H).bind fun v H1 => (ds m H1).bind fun vs H2 => .ok (v :: vs) H2) := by
  intro A stk env L mc led frs ads m H s Ql Ep pos h k
  dsimp only at k
  refine pairTrees_cons_walk (wpAny_Constant_str ?_)
  refine hd (h.step h.sr h.ar .refl) ((k.step .refl).ebind fun v H1 xv h1 t1 ads1 led1 _ sr1 ar1 ex1 vr1 k1 => ?_)
  refine wpAny_mono (hds (h.step (tk' := t1) sr1 ar1 ex1) (k1.lbind (Ql' := fun xs s' => Ql (xv :: xs) s') fun vs H2 xs h2 t2 ads2 led2 _ sr2 ar2 ex2 vr2 k2 => ?_)) ?_ fun _ _ e => e
  · exact k2 _ _ _ _ _ sr2 ar2 .refl (.cons (ex2.vr vr1) vr2)
  · rintro ps s' ⟨xs, h1, h2⟩
    exact ⟨xv :: xs, .cons h1, h2⟩
theorem KP.keys : ∀ {ks : List (List Nat)} {ps : List (Value × Value)} {xs : List Value}, KP ks ps xs → allStrKeys ps = true ∧ strPairs ps = (ks.map St).zip xs ∧ xs.length = ks.length
  | _, _, _, .nil => ⟨rfl, rfl, rfl⟩
  | _, _, _, .cons r => ⟨r.keys.1, by rw [strPairs, r.keys.2.1]; rfl, congrArg (· + 1) r.keys.2.2⟩
theorem vks_of {P : Addr → Obj → Prop} {ads : List Addr} : ∀ {ks : List (List Nat)} {vs : List V} {xs : List Value} {es : List DictEntry}, Pairs (strKind S.c.prog S.c.w) es ((ks.map St).zip xs) → (∀ e ∈ es, ∃ k, (strKind S.c.prog S.c.w).is k e.key = true ∧ e.hash = (strKind S.c.prog S.c.w).hash k) →
    VRs S.c.hf P ads vs xs → VKs S.c.hf P ads (ks.zip vs) es
  | [], _, _, _, p, _, _ => by
    simp only [List.map_nil, List.zip_nil_left] at p ⊢
    cases p; exact .nil
  | _ :: _, _, _, _, p, _, .nil => by
    simp only [List.zip_nil_right] at p ⊢
    cases p; exact .nil
  | k :: ks, _, _, _, p, hk, .cons a r => by
    simp only [List.map_cons, List.zip_cons_cons] at p ⊢
    cases p with
    | cons q1 q2 q3 =>
      rename_i e es
      obtain ⟨hash, key, val⟩ := e
      obtain ⟨t, rfl⟩ := Value.isStrOf_shape q1
      obtain ⟨k', h1, h2⟩ := hk _ List.mem_cons_self
      have e' := (PySem.strKind S.c.prog S.c.w).inj _ _ _ h1 q1
      dsimp only at e' h2 q2
      subst e' q2 h2
      exact .cons a (vks_of q3 (fun e he => hk e (List.mem_cons_of_mem _ he)) r)
/-- a display of a dict: what stands at its end -/
theorem dict_made {h : Heap} {P : Addr → Obj → Prop} {ads : List Addr} {a : Addr} {ks : List (List Nat)} {vs : List V} {xs : List Value} (hd : h.DictOf (strKind S.c.prog S.c.w) a ((ks.map St).zip xs)) (r : VRs S.c.hf P ads vs xs) :
    ∃ es m, h.get? a = some (dictOf es m) ∧ VKs S.c.hf P ads (ks.zip vs) es := by
  obtain ⟨⟨c, d, dt, sl⟩, es, ep, h1, ⟨h2, h3, h4⟩, h5, h6, h7, _⟩ := hd
  cases h2; cases h3; cases h4; cases h5
  exact ⟨es.toList, ep, by rw [h1], vks_of h7 (fun e he => h6 e (by simpa using he)) r⟩
theorem dict_any (mk : Bool) {ks : List (List Nat)} {keys : List (Option Expr)} {vals : List Expr} {pos : Pos} {ds : Loc → Hp → Rs (List V)} (cok : S.c.Ok) (h : PairsOK S n ck.low ks keys vals ds) (hall : keys.all (·.isSome) = true) (hl : keys.length = vals.length) (h0 : keys ≠ []) (hlen : keys.length ≤ 15) (hks : ks.Nodup) (hkl : ks.length = keys.length) :
    EvalOK S n ck (.Dict keys vals pos) (fun m H => (ds m H).only fun vs H1 => if mk then .ok (.obj H1.length) (H1 ++ [.dict (ks.zip vs)]) else .ok (.dct (ks.zip vs)) H1) := by
  intro A stk env L mc led frs ads m H s Qp Ep hh k
  dsimp only at k
  refine wpAny_Dict_walk (knd := strKind S.c.prog S.c.w) hall hl h0 hlen ?_
  have a0 := hh.sr.alloc emptyDict
  have sr0 : SR S.c L mc led ((s.heap.objs.size, emptyDict) :: frs) (s.heap.push emptyDict) := by
    refine ⟨a0.fr, fun p hp => a0.nw p ?_, ?_⟩
    · rcases List.mem_append.mp hp with q | q
      · exact List.mem_append_left _ (List.mem_cons_of_mem _ q)
      · rcases List.mem_cons.mp q with rfl | q
        · exact List.mem_append_left _ List.mem_cons_self
        · exact List.mem_append_right _ q
    · have e : (led ++ (s.heap.objs.size, emptyDict) :: frs).Perm ((s.heap.objs.size, emptyDict) :: led ++ frs) := List.perm_middle
      exact (e.map _).nodup_iff.mpr a0.nd
  have hh0 : Here S n ck.low A stk env L mc led ((s.heap.objs.size, emptyDict) :: frs) ads m H { s with heap := s.heap.push emptyDict } :=
    ⟨hh.env, sr0, hh.ar, hh.lr, hh.fra, fun e he => ⟨(hh.stk e he).1, by
      obtain ⟨L', q1, q2⟩ := (hh.stk e he).2
      exact ⟨L', q1, q2.imp id fun ⟨o, q3, q4⟩ => ⟨o, List.mem_cons_of_mem _ q3, q4⟩⟩⟩, hh.hd, hh.room, hh.units, fun h => nomatch h⟩
  refine wpAny_mono (h hh0 (k.lonly (Ql := fun xs s₁ => ∀ ps, KP ks ps xs → ∃ kvs, Carries (strKind S.c.prog S.c.w) ps kvs ∧ s₁.heap.DictOf (strKind S.c.prog S.c.w) s.heap.objs.size [] ∧
      ∀ h', h'.DictOf (strKind S.c.prog S.c.w) s.heap.objs.size (merged [] kvs) → Heap.SameBut s.heap.objs.size s₁.heap h' → Qp (.ref s.heap.objs.size) { s₁ with heap := h', toks := s₁.toks + ps.length })
      fun vs H1 xs h1 t1 ads1 led1 e sr1 ar1 ex1 vr1 k1 => ?_)) (fun ps s' ⟨xs, q1, q2⟩ => q2 ps q1) fun _ _ e => e
  intro ps hp
  have hk := hp.keys
  have g1 : h1.get? s.heap.objs.size = some emptyDict := (sr1.nw _ (List.mem_append_right _ List.mem_cons_self)).1
  refine display_done_str hk.1 ?_ ⟨emptyDict, #[], 0, g1, ⟨rfl, rfl, rfl⟩, rfl, fun e he => by simp at he, .nil, .nil⟩ ?_
  · rw [hk.2.1, List.map_fst_zip (by rw [List.length_map, hk.2.2]; exact Nat.le_refl _)]
    exact List.pairwise_map.mpr (hks.imp fun h => st_ne h)
  · intro h' hd hs
    rw [hk.2.1] at hd
    obtain ⟨es, m', g2, vk⟩ := dict_made hd vr1
    have sr2 := sr1.join hs g2
    have hna : s.heap.objs.size ∉ ads1 := fun hm => by
      obtain ⟨i, hi⟩ := List.mem_iff_getElem?.mp hm
      have hl : i < H1.length := by rw [← ar1.len]; exact (List.getElem?_eq_some_iff.mp hi).1
      obtain ⟨b', z, q1, q2, _⟩ := ar1.ob i H1[i] (List.getElem?_eq_getElem hl)
      rw [hi] at q1; cases q1
      have := sr2.ndl
      rw [List.map_cons, List.nodup_cons] at this
      exact this.1 (List.mem_map_of_mem (f := (·.1)) q2)
    cases mk with
    | false =>
      exact k1.fin (t1 := _) sr2 ar1.new ext_new (.dct (.inl ⟨List.mem_cons_self, hna⟩) (hh.sr.fr.notModules (modules_low cok.nolim)) (vk.mono (fun a o => (ext_new (c := S.c)).im a o) fun _ _ => id))
    | true =>
      have hn : s.heap.objs.size ∉ led1.map (·.1) := by
        have := sr2.ndl
        rw [List.map_cons, List.nodup_cons] at this
        exact this.1
      refine k1.fin (t1 := _) sr2 (ar1.newM hn (.dict vk)) (ext_newM hn) (.obj ?_)
      rw [← ar1.len, List.getElem?_append_right (Nat.le_refl _)]; simp
theorem ok_neg {i : Int} {k : Nat} {kpos pos : Pos} : EvalOK S n ck (.UnaryOp .USub (.Constant (.int i) k kpos) pos) (fun _ H => .ok (.int (-i)) H) := by
  intro A stk env L mc led frs ads m H s Qp Ep h k
  exact wpAny_UnaryOp (wpAny_Constant_int (P.neg_int (k.fin0 (t1 := _) h.sr h.ar (.int _ _))))
theorem ok_pow {a b : Nat} {k1 k2 : Nat} {p1 p2 pos : Pos} : EvalOK S n ck (.BinOp (.Constant (.int a) k1 p1) .Pow (.Constant (.int b) k2 p2) pos) (fun _ H => if a < 1000 ∧ b < 100 then .ok (.int ((a : Int) ^ b)) H else .stuck) := by
  intro A stk env L mc led frs ads m H s Qp Ep h k
  dsimp only at k
  split at k
  · rename_i hc
    refine wpAny_BinOp (wpAny_Constant_int (wpAny_Constant_int (pow_int_small (Int.natCast_nonneg _) (by omega) (Nat.lt_trans (by simpa using hc.1) (by decide)) ?_)))
    exact k.fin0 (t1 := _) h.sr h.ar (.int _ _)
  · exact k.elim
end
end
-- A11
section
open PySem PySem.W PyProof.Rows PySem.Calls PySem.SeqAt
noncomputable def notStar : Expr → Bool
  | .Starred _ _ => false
  | _ => true
theorem star_of {x : Expr} {xs : List Expr} (h : notStar x = true) (env : Env) : starEach (x :: xs) env = (false, eval x env) :: starEach xs env := by
  cases x <;> first | rfl | cases h
theorem noStar : ∀ {xs : List Expr} {pos : Pos}, xs.all notStar = true → ∀ env, (backTo pos (starEach xs env)).any (·.1) = false
  | [], _, _, _ => rfl
  | x :: xs, pos, h, env => by
    rw [List.all_cons, Bool.and_eq_true] at h
    rw [star_of h.1]
    show (false || (backTo pos (starEach xs env)).any (·.1)) = false
    rw [noStar h.2]; rfl
section
variable {S : Sta} {n : Nat} {ck : Ck} {A : Around} {stk : List Env} {env : Env} {L : Addr} {mc : Str → Option Value} {frs : Led} {ads : List Addr} {led : Led} {m : Loc} {H : Hp} {s : Shared} {Qp Ep : Value → Shared → Prop}
/-- a builtin by its name -/
structure Blt (S : Sta) (ck : Ck) (f : Str) (id : String) : Prop where
  nm : ck.sc.names.lookup f = some .globalImplicit
  nd : (f == ("__debug__" : Str)) = false
  mg : S.c.mg f = none
  mb : S.c.mb f = some (.builtin id)
theorem builtin_call {f : Str} {id : String} {x : Expr} {xs : List Expr} {p pos : Pos} (c : S.c.Ok) (b : Blt S ck f id) (hh : Here S n ck A stk env L mc led frs ads m H s) (hs : (x :: xs).all notStar = true)
    (h : wpAny S.M A (spliced (backTo pos (starEach (x :: xs) env))) (fun vs s1 => wpAny S.M A (call (.builtin id) vs) Qp Ep s1) Ep s) : wpAny S.M A (eval (.Call (.Name f p) (x :: xs) [] pos) env) Qp Ep s := by
  have hek : env.kindOf f = some .globalImplicit := by show env.scope.names.lookup f = _; rw [hh.env.sc]; exact b.nm
  refine Call_ (Name_function_global (by rw [hh.env.sc]; exact hh.env.kind) hek (loadGlobal_builtin (by rw [hh.env.gl]; exact c.g.keeps hh.sr.fr.keep) b.mg (by rw [hh.env.bl]; exact c.b.keeps hh.sr.fr.keep) b.mb ?_) b.nd)
  rw [List.all_cons, Bool.and_eq_true] at hs
  exact callWith_builtin1 h (star_of hs.1 env) (noStar hs.2 env)
theorem one_arg {x : Expr} {pos : Pos} {Ql : List Value → Shared → Prop} (hs : notStar x = true) (h : wpAny S.M A (eval x env) (fun v s1 => Ql [v] s1) Ep s) : wpAny S.M A (spliced (backTo pos (starEach [x] env))) Ql Ep s :=
  wpAny_items_cons (wpAny_mono h (fun _ _ q => wpAny_items_nil q) fun _ _ e => e) (star_of hs env)
theorem two_args {x y : Expr} {pos : Pos} {Ql : List Value → Shared → Prop} (hs : notStar x = true) (hs2 : notStar y = true) (h : wpAny S.M A (eval x env) (fun v s1 => wpAny S.M A (eval y env) (fun w s2 => Ql [v, w] s2) Ep s1) Ep s) : wpAny S.M A (spliced (backTo pos (starEach [x, y] env))) Ql Ep s :=
  wpAny_items_cons (wpAny_mono h (fun _ _ q => one_arg hs2 q) fun _ _ e => e) (star_of hs env)
end
noncomputable def plainBase : Expr → Bool
  | .Call (.Name _ _) [] [] _ => false
  | _ => true
theorem base_of {o : Expr} (h : plainBase o = true) (name : Str) (env : Env) (whole : Sem Value) : attributeBase o name env whole = whole := by
  cases o <;> first | rfl | skip
  rename_i f as ks p
  cases f <;> first | rfl | skip
  cases as <;> first | rfl | skip
  cases ks <;> first | rfl | exact ff h
theorem call_method {M : Model} {A : Around} {E : Value → Shared → Prop} {s : Shared} {env : Env} {Q : Value → Shared → Prop} {o : Expr} {name : Str} {apos pos : Pos} {args : List Expr} (hb : plainBase o = true)
    (hs : ((backTo pos (starEach args env)).all fun x => !x.1) = true) (hl : args.length < 30) (hp : (apos.endLine == pos.line) = true)
    (h : wpAny M A (eval o env) (fun ov s1 => ∀ pl, wpAny M A (getMethod ov name pl) (fun fx s2 => wpAny M A (callWith pos fx.1 fx.2 (backTo pos (starEach args env)) []) Q E s2) E s1) E s) :
    wpAny M A (eval (.Call (.Attribute o name apos) args [] pos) env) Q E s := by
  have e : eval (.Call (.Attribute o name apos) args [] pos) env = (do
    let ov ← attributeBase o name env (eval o env)
    standAt apos.atName
    methodCall o name apos pos env ov (args.length + 0) (backTo pos (starEach args env)) []) := rfl
  rw [e, base_of hb]
  refine wpAny_bind (wpAny_mono h (fun ov s1 h1 => wpAny_bind (wpAny_standAt ?_)) fun _ _ x => x)
  unfold methodCall
  have hf : methodCallForm (args.length + 0) (backTo pos (starEach args env)) [] = true := by
    unfold methodCallForm
    rw [hs]
    simp [hl]
  rw [hf]
  have h2 : methodCallPos true o env apos pos = pure pos := by
    unfold methodCallPos
    rw [hp]; rfl
  rw [h2]
  refine wpAny_bind (wpAny_holding ?_)
  refine wpAny_mono (h1 _) (fun fx s2 h2 => wpAny_bind (wpAny_pure h2)) fun _ _ x => x
theorem get_attr {A : Around} {E : Value → Shared → Prop} {s : Shared} {env : Env} {Q : Value → Shared → Prop} {o : Expr} {name : Str} {pos : Pos} {prog : Program} {w : World} (hb : plainBase o = true)
    (h : wpAny (model prog w) A (eval o env) (fun ov s1 => wpAny (model prog w) A (getAttr ov name true) Q E s1) E s) : wpAny (model prog w) A (eval (.Attribute o name pos) env) Q E s := by
  refine Attribute_any_ h ?_
  have e : eval (.Attribute o name pos) env = (do
    let ov ← attributeBase o name env (eval o env)
    standAt pos.atName
    let r ← holding [ov] (getAttr ov name true)
    letTemporaryGo o ov r
    pure r) := rfl
  rw [e, base_of hb]
theorem starAll : ∀ {xs : List Expr} {pos : Pos}, xs.all notStar = true → ∀ env, ((backTo pos (starEach xs env)).all fun x => !x.1) = true
  | [], _, _, _ => rfl
  | x :: xs, pos, h, env => by
    rw [List.all_cons, Bool.and_eq_true] at h
    rw [star_of h.1]
    show (true && (backTo pos (starEach xs env)).all fun x => !x.1) = true
    rw [starAll h.2]; rfl
theorem call_m {M : Model} {A : Around} {E : Value → Shared → Prop} {s : Shared} {env : Env} {Q : Value → Shared → Prop} {o : Expr} {name : Str} {apos pos : Pos} {args : List Expr} (hb : plainBase o = true)
    (hs : args.all notStar = true) (hl : args.length < 30) (hp : (apos.endLine == pos.line) = true)
    (h : wpAny M A (eval o env) (fun ov s1 => ∀ pl, wpAny M A (getMethod ov name pl) (fun fx s2 => wpAny M A (callWith pos fx.1 fx.2 (backTo pos (starEach args env)) []) Q E s2) E s1) E s) :
    wpAny M A (eval (.Call (.Attribute o name apos) args [] pos) env) Q E s := call_method hb (starAll hs env) hl hp h
section
variable {S : Sta} {n : Nat} {ck : Ck} {d da db : Loc → Hp → Rs V} {x y : Expr} {p pos : Pos}
theorem vr_lst_inv {hf : Str → Int} {P : Addr → Obj → Prop} {ads : List Addr} {vs : List V} {x : Value} (h : VR hf P ads (.lst vs) x) : SeqAt "list" hf P ads vs x := by
  cases h with
  | lst h r => exact ⟨_, _, _, rfl, h, r⟩
theorem ok_len {f : Str} (c : S.c.Ok) (b : Blt S ck f "len") (hs : notStar x = true) (h : EvalOK S n ck x d) :
    EvalOK S n ck (.Call (.Name f p) [x] [] pos) (fun m H => (d m H).bind fun v H1 => Rs.of (((lenV H1 v).bind fun k => if k ≤ big then some (V.int k) else none)) H1) := by
  intro A stk env L mc led frs ads m H s Qp Ep hh k
  dsimp only at k
  refine builtin_call c b hh (by rw [List.all_cons, hs]; rfl) (one_arg hs (h hh (k.bind fun v H1 xv h1 t1 ads1 led1 _ sr ar ex vr k1 => ?_)))
  cases hl : lenV H1 v with
  | none => simp only [hl, Option.bind_none] at k1; exact k1.elim
  | some q =>
    simp only [hl, Option.bind_some] at k1
    by_cases hq : q ≤ big
    · simp only [if_pos hq] at k1
      have hb : (q : Int) < 2 ^ 63 := by unfold big at hq; omega
      unfold lenV at hl
      split at hl
      · cases hl; cases vr
        exact P.len_str (by rw [st_length]; omega) (by rw [st_length]; exact k1.fin (t1 := _) sr ar .refl (.int _ _))
      · cases hl
        obtain ⟨a, xs, n1, rfl, p1, r1⟩ := vr_tup_inv vr
        rw [r1.length] at hb k1
        exact len_tuple (isTup_of (sr.im p1)) (by simpa using hb) (by simpa using k1.fin (t1 := t1 + 1 + 1) sr ar .refl (.int _ (t1 + 1)))
      · cases hl
        obtain ⟨a, xs, n1, rfl, p1, r1⟩ := vr_lst_inv vr
        rw [r1.length] at hb k1
        exact call_len_list ⟨_, sr.im p1, rfl, _, rfl⟩ (by simpa using hb) (by simpa using k1.fin (t1 := t1 + 1 + 1) sr ar .refl (.int _ (t1 + 1)))
      · split at hl
        · rename_i vs hi
          cases hl
          obtain ⟨a, xs, n1, rfl, _, _, h3, r1⟩ := list_at (s := { s with heap := h1, toks := t1 }) sr ar hi vr
          rw [r1.length] at hb k1
          exact call_len_list ⟨_, h3, rfl, _, rfl⟩ (by simpa using hb) (by simpa using k1.fin (t1 := t1 + 1 + 1) sr ar .refl (.int _ (t1 + 1)))
        · cases hl
      · cases hl
    · simp only [if_neg hq] at k1; exact k1.elim
theorem ok_chr {f : Str} (c : S.c.Ok) (b : Blt S ck f "chr") (hs : notStar x = true) (h : EvalOK S n ck x d) :
    EvalOK S n ck (.Call (.Name f p) [x] [] pos) (fun m H => (d m H).bind fun v H1 => Rs.of (chrV v) H1) := by
  intro A stk env L mc led frs ads m H s Qp Ep hh k
  dsimp only at k
  refine builtin_call c b hh (by rw [List.all_cons, hs]; rfl) (one_arg hs (h hh (k.bind fun v H1 xv h1 t1 ads1 led1 _ sr ar ex vr k1 => ?_)))
  cases hl : chrV v with
  | none => simp only [hl] at k1; exact k1.elim
  | some q =>
    simp only [hl] at k1
    unfold chrV at hl
    split at hl
    · split at hl
      · rename_i hq
        cases hl; cases vr
        exact P.chr_of_int (by simp; omega) (k1.fin (t1 := _) sr ar .refl (.str _ _))
      · cases hl
    · cases hl
theorem ok_ord {f : Str} (c : S.c.Ok) (b : Blt S ck f "ord") (hs : notStar x = true) (h : EvalOK S n ck x d) :
    EvalOK S n ck (.Call (.Name f p) [x] [] pos) (fun m H => (d m H).bind fun v H1 => Rs.of (ordV v) H1) := by
  intro A stk env L mc led frs ads m H s Qp Ep hh k
  dsimp only at k
  refine builtin_call c b hh (by rw [List.all_cons, hs]; rfl) (one_arg hs (h hh (k.bind fun v H1 xv h1 t1 ads1 led1 _ sr ar ex vr k1 => ?_)))
  cases hl : ordV v with
  | none => simp only [hl] at k1; exact k1.elim
  | some q =>
    simp only [hl] at k1
    unfold ordV at hl
    split at hl
    · cases hl; cases vr
      exact P.ord_of_char (k1.fin (t1 := _) sr ar .refl (.int _ _))
    · cases hl
theorem sr_again {c : Cx} {L : Addr} {mc : Str → Option Value} {led frs : Led} {h h' : Heap} (x : SR c L mc led frs h) (F : Fr c.base L h' mc) (N : News c.base L h' (led ++ frs)) : SR c L mc led frs h' := ⟨F, N, x.nd⟩
theorem ok_max2 {f : Str} (c : S.c.Ok) (b : Blt S ck f "max") (hs : notStar x = true) (hs2 : notStar y = true) (ha : EvalOK S n ck x da) (hb : EvalOK S n ck y db) :
    EvalOK S n ck (.Call (.Name f p) [x, y] [] pos) (fun m H => (da m H).bind fun v H1 => (db m H1).bind fun w H2 => match v, w with
      | .int i, .int j => .ok (.int (if j > i then j else i)) H2
      | _, _ => .stuck) := by
  intro A stk env L mc led frs ads m H s Qp Ep hh k
  dsimp only at k
  refine builtin_call c b hh (by rw [List.all_cons, List.all_cons, hs, hs2]; rfl) (two_args hs hs2 (ha hh (k.bind fun v H1 xv h1 t1 ads1 led1 _ sr ar ex vr k1 => hb (hh.step sr ar ex) (k1.bind fun w H2 yv h2 t2 ads2 led2 _ sr2 ar2 ex2 vr2 k2 => ?_))))
  split at k2
  · have vr' := ex2.vr vr
    cases vr'; cases vr2
    exact max_two_N hh.hd sr2.fr sr2.nw fun h' tk F' N' => k2.fin (t1 := tk) (sr_again sr2 F' N') ar2 .refl (.int _ _)
  · exact k2.elim
theorem ok_min2 {f : Str} (c : S.c.Ok) (b : Blt S ck f "min") (hs : notStar x = true) (hs2 : notStar y = true) (ha : EvalOK S n ck x da) (hb : EvalOK S n ck y db) :
    EvalOK S n ck (.Call (.Name f p) [x, y] [] pos) (fun m H => (da m H).bind fun v H1 => (db m H1).bind fun w H2 => match v, w with
      | .int i, .int j => .ok (.int (if j < i then j else i)) H2
      | _, _ => .stuck) := by
  intro A stk env L mc led frs ads m H s Qp Ep hh k
  dsimp only at k
  refine builtin_call c b hh (by rw [List.all_cons, List.all_cons, hs, hs2]; rfl) (two_args hs hs2 (ha hh (k.bind fun v H1 xv h1 t1 ads1 led1 _ sr ar ex vr k1 => hb (hh.step sr ar ex) (k1.bind fun w H2 yv h2 t2 ads2 led2 _ sr2 ar2 ex2 vr2 k2 => ?_))))
  split at k2
  · have vr' := ex2.vr vr
    cases vr'; cases vr2
    exact min_two_N hh.hd sr2.fr sr2.nw fun h' tk F' N' => k2.fin (t1 := tk) (sr_again sr2 F' N') ar2 .refl (.int _ _)
  · exact k2.elim
theorem lower_st {l : List Nat} (h : l.all (· < 128) = true) : Txt.lower (St l) = St (l.map lowerC) := by
  rw [lower_ascii (x := St l) (fun c hc => by
    have : c ∈ l := by simpa [St] using hc
    simpa using List.all_eq_true.mp h c this)]
  show (⟨l.toArray.map lo1⟩ : Str) = ⟨(l.map lowerC).toArray⟩
  rw [List.map_toArray]; rfl
theorem ok_lower {ap : Pos} (hb : plainBase x = true) (hp : (ap.endLine == pos.line) = true) (h : EvalOK S n ck x d) :
    EvalOK S n ck (.Call (.Attribute x "lower" ap) [] [] pos) (fun m H => (d m H).bind fun v H1 => Rs.of (lowerV v) H1) := by
  intro A stk env L mc led frs ads m H s Qp Ep hh k
  dsimp only at k
  refine call_m hb rfl (by simp) hp (h hh (k.bind fun v H1 xv h1 t1 ads1 led1 _ sr ar ex vr k1 pl => ?_))
  cases hv : lowerV v with
  | none => simp only [hv] at k1; exact k1.elim
  | some q =>
    simp only [hv] at k1
    unfold lowerV at hv
    split at hv
    · rename_i l
      split at hv
      · rename_i ha
        split at hv
        · rename_i hl
          cases hv; cases vr
          refine GM.lower (callWith_method0 (KXw.lower (lower_st ha) ?_ fun t k => k1.fin (t1 := k) sr ar .refl (.str _ _)))
          rw [lower_st ha, st_length, List.length_map]
          unfold Builtin.Str.tooLong
          have := big_le
          exact decide_eq_false (by omega)
        · cases hv
      · cases hv
    · cases hv
theorem hex_occ : ∀ c ∈ hexes, ((hexes.idxOf? c).any fun i => Builtin.Str.occurrences (St hexes) (St [c]) 0 (St hexes).length 1 == [i]) = true := by decide +kernel
theorem idx_mem {c : Nat} {i : Nat} : ∀ {l : List Nat}, l.idxOf? c = some i → c ∈ l := by
  intro l h
  by_cases hm : c ∈ l
  · exact hm
  · rw [List.idxOf?_eq_none_iff.mpr hm] at h; cases h
theorem isStrV_inv {v : V} (h : isStrV v = true) : ∃ l, v = .str l := by
  cases v <;> first | exact ⟨_, rfl⟩ | cases h
theorem isDctV_inv {v : V} (h : isDctV v = true) : ∃ l, v = .dct l := by
  cases v <;> first | exact ⟨_, rfl⟩ | cases h
theorem isListV_inv {H : Hp} {v : V} (h : isListV H v = true) : ∃ i vs, v = .obj i ∧ H[i]? = some (.list vs) := by
  unfold isListV at h
  split at h
  · split at h
    · exact ⟨_, _, rfl, by assumption⟩
    · cases h
  · cases h
theorem ok_index {ap : Pos} (hbase : plainBase x = true) (hp : (ap.endLine == pos.line) = true) (hs : notStar y = true) (ha : EvalOK S n ck x da) (hb : EvalOK S n ck y db) :
    EvalOK S n ck (.Call (.Attribute x "index" ap) [y] [] pos) (fun m H => (da m H).bind fun v H1 => if isStrV v then (db m H1).bind fun w H2 => Rs.of (indexV v w) H2 else .stuck) := by
  intro A stk env L mc led frs ads m H s Qp Ep hh k
  dsimp only at k
  refine call_m hbase (by rw [List.all_cons, hs]; rfl) (by simp) hp (ha hh (k.bind fun v H1 xv h1 t1 ads1 led1 e sr ar ex vr k1 pl => ?_))
  split at k1
  · rename_i hv
    obtain ⟨l, rfl⟩ := isStrV_inv hv
    cases vr
    refine GM.index (callWith_method1 (one_arg hs (hb (hh.step sr ar ex) (k1.bind fun w H2 yv h2 t2 ads2 led2 _ sr2 ar2 ex2 vr2 k2 => ?_))) (star_of hs env) (noStar (by rfl) env))
    cases hv : indexV (.str l) w with
    | none => simp only [hv] at k2; exact k2.elim
    | some q =>
      simp only [hv] at k2
      cases w with
      | str y =>
        match y, hv, vr2 with
        | [], hv, _ => cases hv
        | _ :: _ :: _, hv, _ => cases hv
        | [c], hv, vr2 =>
          simp only [indexV] at hv
          split at hv
          · rename_i hl
            cases hi : hexes.idxOf? c with
            | none => rw [hi] at hv; cases hv
            | some i =>
              rw [hi] at hv; cases hv
              subst hl
              cases vr2
              have := hex_occ c (idx_mem hi)
              rw [hi] at this
              simp only [Option.any_some, beq_iff_eq] at this
              exact SC.index this (k2.fin (t1 := _) sr2 ar2 .refl (.int _ _))
          · cases hv
      | _ => cases hv
  · exact k1.elim
theorem joinL_eq (sep : List Nat) : ∀ l : List (List Nat), Str.join (St sep) (l.map St) = St (joinL sep l)
  | [] => rfl
  | [x] => rfl
  | x :: y :: r => by
    have ih := joinL_eq sep (y :: r)
    show St x ++ St sep ++ Str.join (St sep) (St y :: r.map St) = _
    rw [show (St y :: r.map St) = (y :: r).map St from rfl, ih, st_append, st_append]
    rfl
theorem fold_sum (c : Nat) : ∀ (l : List (List Nat)) (a : Nat), (l.map St).foldl (fun x1 x2 => x1 + x2.length + c) a = a + (l.map fun x => x.length + c).sum
  | [], a => by simp
  | x :: r, a => by
    rw [List.map_cons, List.foldl_cons, fold_sum c r, st_length, List.map_cons, List.sum_cons]; omega
theorem strs_values {P : Addr → Obj → Prop} {hf : Str → Int} {ads : List Addr} : ∀ {vs : List V} {xs : List Value} {l : List (List Nat)}, strsOf vs = some l → VRs hf P ads vs xs → ∃ q : List (Str × Tok), xs = strValues q ∧ q.map (·.1) = l.map St
  | [], _, _, h, .nil => by cases h; exact ⟨[], rfl, rfl⟩
  | v :: r, _, _, h, .cons a q => by
    cases a with
    | str s t =>
      simp only [strsOf, Option.map_eq_some_iff] at h
      obtain ⟨l', h1, rfl⟩ := h
      obtain ⟨q', e1, e2⟩ := strs_values h1 q
      exact ⟨(St s, t) :: q', by rw [e1]; rfl, by rw [List.map_cons, e2]; rfl⟩
    | _ => cases h
theorem ok_join {ap : Pos} (hbase : plainBase x = true) (hp : (ap.endLine == pos.line) = true) (hs : notStar y = true) (ha : EvalOK S n ck x da) (hb : EvalOK S n ck y db) :
    EvalOK S n ck (.Call (.Attribute x "join" ap) [y] [] pos) (fun m H => (da m H).bind fun v H1 => if isStrV v then (db m H1).bind fun w H2 => Rs.of (joinV H2 v w) H2 else .stuck) := by
  intro A stk env L mc led frs ads m H s Qp Ep hh k
  dsimp only at k
  refine call_m hbase (by rw [List.all_cons, hs]; rfl) (by simp) hp (ha hh (k.bind fun v H1 xv h1 t1 ads1 led1 e sr ar ex vr k1 pl => ?_))
  split at k1
  · rename_i hv
    obtain ⟨sep, rfl⟩ := isStrV_inv hv
    cases vr
    refine GM.join (callWith_method1 (one_arg hs (hb (hh.step sr ar ex) (k1.bind fun w H2 yv h2 t2 ads2 led2 _ sr2 ar2 ex2 vr2 k2 => ?_))) (star_of hs env) (noStar (by rfl) env))
    cases hv : joinV H2 (.str sep) w with
    | none => simp only [hv] at k2; exact k2.elim
    | some q =>
      simp only [hv] at k2
      cases w with
      | obj i =>
        simp only [joinV] at hv
        split at hv
        · rename_i vs hi
          obtain ⟨a, xs, n1, rfl, _, _, h3, r1⟩ := list_at (s := { s with heap := h2, toks := t2 }) sr2 ar2 hi vr2
          cases hl : strsOf vs with
          | none => rw [hl] at hv; cases hv
          | some l =>
            rw [hl] at hv
            simp only [Option.bind_some] at hv
            split at hv
            · rename_i hsum
              cases hv
              obtain ⟨q, rfl, e2⟩ := strs_values hl r1
              refine SC.join (texts := l.map St) ⟨_, h3, rfl, _, rfl⟩ e2 ?_ fun t k => ?_
              · unfold JoinOk Builtin.Str.tooLong
                rw [List.foldl_toArray, fold_sum, st_length]
                have := big_le
                simp; omega
              · rw [show Txt.join (St sep) (l.map St) = Str.join (St sep) (l.map St) from StrLaws.glued_eq_join _ _, joinL_eq]
                exact k2.fin (t1 := k) sr2 ar2 .refl (.str _ _)
            · cases hv
        · cases hv
      | _ => cases hv
  · exact k1.elim
theorem ok_dget {ap : Pos} (c : S.c.Ok) (hbase : plainBase x = true) (hp : (ap.endLine == pos.line) = true) (hs : notStar y = true) (ha : EvalOK S n ck x da) (hb : EvalOK S n ck y db) :
    EvalOK S n ck (.Call (.Attribute x "get" ap) [y] [] pos) (fun m H => (da m H).bind fun v H1 => if isDctV v then (db m H1).bind fun w H2 => Rs.of (dgetV v w) H2 else .stuck) := by
  intro A stk env L mc led frs ads m H s Qp Ep hh k
  dsimp only at k
  refine call_m hbase (by rw [List.all_cons, hs]; rfl) (by simp) hp (ha hh (k.bind fun v H1 xv h1 t1 ads1 led1 e sr ar ex vr k1 pl => ?_))
  split at k1
  · rename_i hv
    obtain ⟨kvs, rfl⟩ := isDctV_inv hv
    cases vr with
    | dct p q r =>
      have hm := mapOf_of (S := S) (sr.im p) r
      refine getMethod_builtin hm.typeIs F.plainAttrs_dict F.slot_dict_get F.type_dict_get (fun a e => by cases e; exact ⟨_, sr.im p, rfl⟩) ?_
      have e1 : backTo pos (starEach [y] env) = [(false, eval y env)] := by rw [star_of hs env]; rfl
      dsimp only
      rw [e1]
      refine wpAny_dict_get1 (knd := strKind S.c.prog S.c.w) q (hb (hh.step sr ar ex) (k1.bind fun w H2 yv h2 t2 ads2 led2 _ sr2 ar2 ex2 vr2 k2 => ?_))
      cases w with
      | str y =>
        simp only [dgetV] at k2
        cases vr2
        have vk := ex2.vks r
        refine ⟨St y, _, strKind_is S.c.prog S.c.w (St y) _, mapOf_of (S := S) (sr2.im (ex2.im _ _ p)) vk, ?_⟩
        have := findBy_of vk y
        cases hk : kvGet kvs y with
        | some v =>
          rw [hk] at this k2
          obtain ⟨x, g1, g2⟩ := this
          rw [g1]
          exact k2.fin (t1 := _) sr2 ar2 .refl g2
        | none =>
          rw [hk] at this k2
          simp only at this
          rw [this]
          exact k2.fin (t1 := _) sr2 ar2 .refl .none
      | _ => simp only [dgetV] at k2; exact k2.elim
  · exact k1.elim
theorem ok_append {ap : Pos} (hbase : plainBase x = true) (hp : (ap.endLine == pos.line) = true) (hs : notStar y = true) (ha : EvalOK S n ck x da) (hb : EvalOK S n ck y db) :
    EvalOK S n ck (.Call (.Attribute x "append" ap) [y] [] pos) (fun m H => (da m H).bind fun v H1 => if isListV H1 v then (db m H1).bind fun w H2 => appendV H2 v w else .stuck) := by
  intro A stk env L mc led frs ads m H s Qp Ep hh k
  dsimp only at k
  refine call_m hbase (by rw [List.all_cons, hs]; rfl) (by simp) hp (ha hh (k.bind fun v H1 xv h1 t1 ads1 led1 e sr ar ex vr k1 pl => ?_))
  split at k1
  · rename_i hv
    obtain ⟨i, vs, rfl, hi⟩ := isListV_inv hv
    obtain ⟨a, xs, n1, rfl, h4, _, h3, r1⟩ := list_at (s := { s with heap := h1, toks := t1 }) sr ar hi vr
    refine getMethod_list_append h3 rfl rfl (callWith_method1 (one_arg hs (hb (hh.step sr ar ex) (k1.bind fun w H2 yv h2 t2 ads2 led2 _ sr2 ar2 ex2 vr2 k2 => ?_))) (star_of hs env) (noStar (by rfl) env))
    unfold appendV at k2
    dsimp only at k2
    split at k2
    · rename_i vs2 hi2
      split at k2
      · rename_i hlen
        obtain ⟨a2, xs2, n2, e2, h4', h5, h3', r2⟩ := list_at (s := { s with heap := h2, toks := t2 }) sr2 ar2 hi2 (ex2.vr vr)
        cases e2
        refine append_at h3' (fun h' hs ho => ?_) ?_
        · have hd : a ∈ ads2 := List.mem_of_getElem? h4'
          refine k2.fin (t1 := _) (sr2.same h5 hs ho) (ar2.upd hi2 h4' h5 ?_) (ext_upd hd) .none
          rw [List.push_toArray]
          exact .list (r2.append (.cons vr2 .nil))
        · have := big_le
          have := r2.length
          simp; omega
      · exact k2.elim
    · exact k2.elim
  · exact k1.elim
end
end
-- A12
section
open PySem PySem.W PyProof.Rows PySem.Calls PySem.SeqAt
noncomputable def plainKey : Expr → Bool
  | .Slice _ _ _ _ => false
  | _ => true
theorem subscripted_of {slice : Expr} (h : plainKey slice = true) (o i : Value) : subscripted slice false o i = operate [o, i] (getItem o i) := by
  cases slice <;> first | rfl | cases h
theorem tail_any {prog : Program} {w : World} {A : Around} {E : Value → Shared → Prop} {s : Shared} {value slice : Expr} {o i : Value} {T id : String} {Q : Value → Shared → Prop} (hk : plainKey slice = true) (hT : s.TypeIs o T)
    (hl : typeLookup (.type T) "__getitem__" = pure (some (.builtin id))) (h : wpAny (model prog w) A (getItem o i) Q E s) : wpAny (model prog w) A (subscriptTail value slice o i) Q E s :=
  kba_turn (value' := .Name (Str.ofString "_") ⟨0, 0, 0, 0⟩) (fun _ => rfl) (subscriptTail_builtin hT hl h (subscripted_of hk o i) fun _ => rfl)
theorem seqIndex_of {i : Int} {n : Nat} (h0 : 0 ≤ i) (h1 : i.toNat < n) : seqIndex? i n = some i.toNat := by
  unfold seqIndex?
  simp only [show ¬ i < 0 by omega, if_false]
  rw [if_pos]
  simp only [Bool.and_eq_true, decide_eq_true_eq]; omega
theorem seqIndex_neg {i : Int} {n : Nat} (h0 : i < 0) (h1 : 0 ≤ i + n) : seqIndex? i n = some (i + n).toNat := by
  unfold seqIndex?
  simp only [h0, if_true]
  rw [if_pos]
  simp only [Bool.and_eq_true, decide_eq_true_eq]; omega
theorem seqAt_inv {vs : List V} {i : Int} {v : V} (h : seqAt vs i = some v) : vs.length ≤ big ∧ ((0 ≤ i ∧ vs[i.toNat]? = some v) ∨ (i < 0 ∧ 0 ≤ i + vs.length ∧ vs[(i + vs.length).toNat]? = some v)) := by
  unfold seqAt at h
  split at h
  · rename_i hb
    refine ⟨hb, ?_⟩
    split at h
    · exact .inl ⟨by assumption, h⟩
    · split at h
      · exact .inr ⟨by omega, by assumption, h⟩
      · cases h
  · cases h
theorem slice_clip (len a b : Nat) : Builtin.Str.strSliceIndices (some (a : Int)) (some (b : Int)) 1 len = Builtin.Str.strSliceIndices (some ((min a len : Nat) : Int)) (some ((min b len : Nat) : Int)) 1 len := by
  unfold Builtin.Str.strSliceIndices
  simp only [show (1 : Int) > 0 by decide, if_true, show ¬ (a : Int) < 0 by omega, show ¬ (b : Int) < 0 by omega, show ¬ ((min a len : Nat) : Int) < 0 by omega, show ¬ ((min b len : Nat) : Int) < 0 by omega, if_false]
  have e1 : max 0 (min (a : Int) len) = max 0 (min ((min a len : Nat) : Int) len) := by omega
  have e2 : max 0 (min (b : Int) len) = max 0 (min ((min b len : Nat) : Int) len) := by omega
  rw [e1, e2]
theorem slice_str {l : List Nat} {a b : Int} (h0 : 0 ≤ a) (h1 : a ≤ b) : Txt.slice (St l) (some a) (some b) = St ((l.take b.toNat).drop a.toNat) := by
  obtain ⟨a, rfl⟩ := Int.eq_ofNat_of_zero_le h0
  obtain ⟨b, rfl⟩ := Int.eq_ofNat_of_zero_le (Int.le_trans h0 h1)
  show StrLaws.sliceText (St l) (some (a : Int)) (some (b : Int)) = _
  have e : StrLaws.sliceText (St l) (some (a : Int)) (some (b : Int)) = StrLaws.sliceText (St l) (some ((min a (St l).length : Nat) : Int)) (some ((min b (St l).length : Nat) : Int)) := by
    unfold StrLaws.sliceText
    rw [slice_clip]
  rw [e, StrLaws.sliceText_nat _ (by omega) (by omega), st_length]
  show St _ = _
  congr 1
  have e2 : ((a : Nat) : Int).toNat = a := by omega
  have e3 : ((b : Nat) : Int).toNat = b := by omega
  rw [e2, e3, List.drop_take]
  show (List.drop (min a l.length) l).take (min b l.length - min a l.length) = _
  by_cases ha : a ≤ l.length
  · rw [Nat.min_eq_left ha]
    by_cases hb : b ≤ l.length
    · rw [Nat.min_eq_left hb]
    · rw [Nat.min_eq_right (by omega), List.take_of_length_le (by simp), List.take_of_length_le (by simp; omega)]
  · rw [List.drop_eq_nil_of_le (by omega : l.length ≤ min a l.length), List.drop_eq_nil_of_le (by omega : l.length ≤ a)]; simp
section
variable {S : Sta} {n : Nat} {ck : Ck} {d da db dc : Loc → Hp → Rs V} {x y z : Expr} {p pos : Pos}
theorem big_lt : (big : Int) < 2 ^ 63 := by decide
theorem vr_dct_inv {hf : Str → Int} {P : Addr → Obj → Prop} {ads : List Addr} {vs : List (List Nat × V)} {x : Value} (h : VR hf P ads (.dct vs) x) : ∃ a es n, x = .ref a ∧ P a (dictOf es n) ∧ (a == sysModules) = false ∧ VKs hf P ads vs es := by
  cases h with
  | dct h q r => exact ⟨_, _, _, rfl, h, q, r⟩
theorem getItem_lst {A : Around} {s : Shared} {a : Addr} {xs : List Value} {vs : List V} {i : Int} {t : Tok} {v : V} {P : Addr → Obj → Prop} {hf : Str → Int} {ads : List Addr} {nn : Nat} {Qp Ep : Value → Shared → Prop} (ho : s.heap.get? a = some { cls := .type "list", data := .seq xs.toArray nn }) (r : VRs hf P ads vs xs)
    (hv : seqAt vs i = some v) (k : ∀ x, VR hf P ads v x → Qp x s) : wpAny S.M A (getItem (.ref a) (.int i t)) Qp Ep s := by
  have hb := big_lt
  obtain ⟨hl, h | h⟩ := seqAt_inv hv
  · obtain ⟨x, h1, h2⟩ := r.get h.2
    refine wpAny_getItem_list (l := a) (items := xs.toArray) ⟨_, ho, rfl, _, rfl⟩ h.1 ?_ (by simpa using h1) (k x h2)
    have := (List.getElem?_eq_some_iff.mp h.2).1
    omega
  · obtain ⟨x, h1, h2⟩ := r.get h.2.2
    have hlen := r.length
    refine wpAny_getItem_list_neg (l := a) (items := xs.toArray) ⟨_, ho, rfl, _, rfl⟩ h.1 (by simp; omega) (by omega) ?_ (k x h2)
    rw [hlen] at h1
    simpa using h1
theorem getItem_tup {A : Around} {s : Shared} {a : Addr} {xs : List Value} {vs : List V} {i : Int} {t : Tok} {v : V} {P : Addr → Obj → Prop} {hf : Str → Int} {ads : List Addr} {Qp Ep : Value → Shared → Prop} (ht : IsTup s.heap a xs.toArray) (r : VRs hf P ads vs xs)
    (hv : seqAt vs i = some v) (k : ∀ x, VR hf P ads v x → Qp x s) : wpAny S.M A (getItem (.ref a) (.int i t)) Qp Ep s := by
  have hb := big_lt
  have hlen := r.length
  obtain ⟨hl, h | h⟩ := seqAt_inv hv
  · obtain ⟨x, h3, h4⟩ := r.get h.2
    have hlt := (List.getElem?_eq_some_iff.mp h.2).1
    exact getItem_tuple ht (by omega) (by omega) (seqIndex_of h.1 (by rw [List.size_toArray, ← hlen]; exact hlt)) (List.getElem?_toArray.trans h3) (k x h4)
  · obtain ⟨x, h3, h4⟩ := r.get h.2.2
    exact getItem_tuple ht (by omega) (by omega) (seqIndex_neg h.1 (by rw [List.size_toArray]; omega)) (by rw [List.size_toArray, ← hlen, List.getElem?_toArray]; exact h3) (k x h4)
theorem getItem_dct {A : Around} {s : Shared} {a : Addr} {es : List DictEntry} {nn : Nat} {kvs : List (List Nat × V)} {y : List Nat} {t : Tok} {v : V} {P : Addr → Obj → Prop} {ads : List Addr} {Qp Ep : Value → Shared → Prop} (ho : s.heap.get? a = some (dictOf es nn)) (r : VKs S.c.hf P ads kvs es)
    (hv : kvGet kvs y = some v) (k : ∀ x t, VR S.c.hf P ads v x → Qp x { s with toks := t }) : wpAny S.M A (getItem (.ref a) (.str (St y) t)) Qp Ep s := by
  have := findBy_of r y
  rw [hv] at this
  exact this.elim fun x g => wpAny_getItem_of (knd := strKind S.c.prog S.c.w) (strKind_is S.c.prog S.c.w (St y) _) (mapOf_of (S := S) ho r) g.1 (k x _ g.2)
section
variable {A : Around} {L : Addr} {mc : Str → Option Value} {frs : Led} {ads : List Addr} {led : Led} {s : Shared} {Qp Ep : Value → Shared → Prop} {H : Hp} {e sl : Expr}
theorem prim_idx {v w : V} {x y : Value} (hk : plainKey sl = true) (sr : SR S.c L mc led frs s.heap) (ar : AR S.c ads H led) (hv : VR S.c.hf (Im S.c ads led) ads v x) (hw : VR S.c.hf (Im S.c ads led) ads w y)
    (k : ECont S L mc frs ads led s Qp Ep (Rs.of (idxV H v w) H)) : wpAny S.M A (subscriptTail e sl x y) Qp Ep s := by
  refine k.of_elim fun r hr k1 => ?_
  have k2 : ∀ x t, VR S.c.hf (Im S.c ads led) ads r x → Qp x { s with toks := t } := fun x t q => k1.fin0 sr ar q
  cases hv with
  | str l t =>
    refine vr_I (C := fun y => wpAny S.M A (subscriptTail e sl (.str (St l) t) y) Qp Ep s) hw hr fun i u hr => ?_
    have e := ite_si hr
    have hbig := big_lt
    refine map_elim e.2 fun c h3 e3 => ?_
    have hlt := (List.getElem?_eq_some_iff.mp h3).1
    exact tail_any hk (typeIs_str _ _ _) slot_str_getitem.lookup (getItem_str (c := c) (by simp only [Bool.or_eq_false_iff, decide_eq_false_iff_not]; omega) (by rw [st_length, seqIndex_of e.1.1 hlt]; simpa [St] using h3) (k2 _ _ (vr_some (congrArg some e3) (.str [c] _))))
  | tup p r1 => exact vr_I (C := fun y => wpAny S.M A (subscriptTail e sl _ y) Qp Ep s) hw hr fun i u hr => have ht := isTup_of (sr.im p); tail_any hk ht.typeIs slot_tuple_getitem.lookup (getItem_tup ht r1 hr fun x q => k2 x s.toks q)
  | lst p r1 => exact vr_I (C := fun y => wpAny S.M A (subscriptTail e sl _ y) Qp Ep s) hw hr fun i u hr => tail_any hk (Heap.IsList.typeIs ⟨_, sr.im p, rfl, _, rfl⟩) slot_list_getitem.lookup (getItem_lst (sr.im p) r1 hr fun x q => k2 x s.toks q)
  | dct p q r1 => exact vr_S (C := fun y => wpAny S.M A (subscriptTail e sl _ y) Qp Ep s) hw hr fun i u hr => tail_any hk (mapOf_of (S := S) (sr.im p) r1).typeIs slot_dict_getitem.lookup (getItem_dct (sr.im p) r1 hr k2)
  | @obj a i hx =>
    change idxO H[i]? w = some r at hr
    cases hi : H[i]? with
    | none => rw [hi] at hr; exact nn hr
    | some o =>
      rw [hi] at hr
      obtain ⟨b, ob, e, h4, h5, h3, r1⟩ := obj_at sr ar hi (.obj hx)
      cases e
      cases r1 with
      | list r1 => exact vr_I (C := fun y => wpAny S.M A (subscriptTail _ sl _ y) Qp Ep s) hw hr fun i u hr => tail_any hk (Heap.IsList.typeIs ⟨_, h3, rfl, _, rfl⟩) slot_list_getitem.lookup (getItem_lst h3 r1 hr fun x q => k2 x s.toks q)
      | dict r1 => exact vr_S (C := fun y => wpAny S.M A (subscriptTail _ sl _ y) Qp Ep s) hw hr fun i u hr => tail_any hk (mapOf_of (S := S) h3 r1).typeIs slot_dict_getitem.lookup (getItem_dct h3 r1 hr k2)
  | _ => exact nn hr
theorem vr_str {hf : Str → Int} {P : Addr → Obj → Prop} {i : List Nat} {x : Value} (h : VR hf P ads (.str i) x) : ∃ t, x = .str (St i) t := by
  cases h; exact ⟨_, rfl⟩
theorem prim_slice {v w u : V} {x y z : Value} {e1 e2 e3 : Expr} {ps : Pos} (sr : SR S.c L mc led frs s.heap) (ar : AR S.c ads H led) (hv : VR S.c.hf (Im S.c ads led) ads v x) (hw : VR S.c.hf (Im S.c ads led) ads w y) (hu : VR S.c.hf (Im S.c ads led) ads u z)
    (k : ECont S L mc frs ads led s Qp Ep (Rs.of (sliceV v w u) H)) : wpAny S.M A (subscriptTail e1 (.Slice (some e2) (some e3) none ps) x (.ref s.heap.objs.size)) Qp Ep { s with heap := s.heap.push { cls := .type "slice", data := .fields #[y, z, .none] } } := by
  refine k.of_elim fun r hr k1 => ?_
  refine vr_S (C := fun x => wpAny S.M A (subscriptTail e1 (.Slice (some e2) (some e3) none ps) x (.ref s.heap.objs.size)) Qp Ep { s with heap := s.heap.push { cls := .type "slice", data := .fields #[y, z, .none] } }) hv hr fun l t hr => vr_I (C := fun y => wpAny S.M A (subscriptTail e1 (.Slice (some e2) (some e3) none ps) (.str (St l) t) (.ref s.heap.objs.size)) Qp Ep { s with heap := s.heap.push { cls := .type "slice", data := .fields #[y, z, .none] } }) hw hr fun i t1 hr => vr_I (C := fun z => wpAny S.M A (subscriptTail e1 (.Slice (some e2) (some e3) none ps) (.str (St l) t) (.ref s.heap.objs.size)) Qp Ep { s with heap := s.heap.push { cls := .type "slice", data := .fields #[(.int i t1), z, .none] } }) hu hr fun j t2 hr => ?_
  have hc := ite_si hr
  refine slice_strN_ss sr.fr sr.nw (fun h' t' k F' N' => ?_) rfl (fun r => by cases e1 <;> rfl) ?_
  · rw [slice_str hc.1.1 hc.1.2.1]
    exact k1.fin (t1 := k) (sr_again sr F' N') ar .refl (vr_some hc.2 (.str _ _))
  · rw [st_length]; exact Nat.le_trans hc.1.2.2 big_le
end
theorem ok_idx (hk : plainKey y = true) (ha : EvalOK S n ck x da) (hb : EvalOK S n ck y db) :
    EvalOK S n ck (.Subscript x y pos) (fun m H => (da m H).bind fun v H1 => (db m H1).bind fun w H2 => Rs.of (idxV H2 v w) H2) :=
  fun hh k => Subscript_ (ha hh (ECont.bind (f := fun v H1 => (db _ H1).bind fun w H2 => Rs.of (idxV H2 v w) H2) k fun v H1 xv h1 t1 ads1 led1 e1 sr ar ex vr k1 => hb (hh.step sr ar ex) (k1.bind fun w H2 yv h2 t2 ads2 led2 e2 sr2 ar2 ex2 vr2 k2 => prim_idx hk sr2 ar2 (ex2.vr vr) vr2 k2)))
theorem ok_slice {ps : Pos} (ha : EvalOK S n ck x da) (hb : EvalOK S n ck y db) (hc : EvalOK S n ck z dc) :
    EvalOK S n ck (.Subscript x (.Slice (some y) (some z) none ps) pos) (fun m H => (da m H).bind fun v H1 => (db m H1).bind fun a H2 => (dc m H2).bind fun b H3 => Rs.of (sliceV v a b) H3) := by
  intro A stk env L mc led frs ads m H s Qp Ep hh k
  dsimp only at k
  refine Subscript_ (ha hh (k.bind fun v H1 xv h1 t1 ads1 led1 e1 sr ar ex vr k1 => ?_))
  refine wpAny_Slice ?_
  rw [evalPart_some, evalPart_some, evalPart_none]
  refine hb (hh.step sr ar ex) (k1.bind fun w H2 yv h2 t2 ads2 led2 e2 sr2 ar2 ex2 vr2 k2 => hc ((hh.step (tk' := t1) sr ar ex).step (tk' := t2) sr2 ar2 ex2) (k2.bind fun u H3 zv h3 t3 ads3 led3 e3 sr3 ar3 ex3 vr3 k3 => wpAny_pure ?_))
  exact prim_slice sr3 ar3 (ex3.vr (ex2.vr vr)) (ex3.vr vr2) vr3 k3
/-- what a class's own name says of an attribute of its things -/
noncomputable def Own (S : Sta) : Prop := ∀ C f, S.sg.own C f = true → plainGet S.c.K C (St f) = true ∧ hasDictIn S.c.K C = true ∧ ∃ attr, findIn S.c.K (.ref C) (St f) = some attr ∧ noGet S.c.K attr = true ∧
  findIn S.c.K (.ref C) "__setattr__" = some (some (.builtin "object.__setattr__")) ∧ plainOver S.c.K C = true ∧ takerIn S.c.K C (St f) = some none
theorem inst_at {h : Heap} {x C dx : Addr} {o : Obj} (hx : h.get? x = some (instObj C dx)) (hd : h.get? dx = some o) : W.InstAt h x (instObj C dx) C (some o) := ⟨hx, rfl, rfl, hd⟩
theorem VR.handed {hf : Str → Int} {P : Addr → Obj → Prop} {ads : List Addr} {v : V} {x : Value} (h : VR hf P ads v x) (hg : noGlob v = true) : handedIn x = true := by
  cases h <;> first | rfl | cases hg
theorem prim_attr {f : List Nat} {A : Around} {L : Addr} {mc : Str → Option Value} {led frs : Led} {ads : List Addr} {H : Hp} {s : Shared} {v : V} {xv : Value} {Qp Ep : Value → Shared → Prop} (c : S.c.Ok) (ow : Own S) (sr : SR S.c L mc led frs s.heap) (ar : AR S.c ads H led) (vr : VR S.c.hf (Im S.c ads led) ads v xv)
    (k1 : ECont S L mc frs ads led s Qp Ep (Rs.of (attrV S.sg H f v) H)) : wpAny S.M A (getAttr xv (St f) true) Qp Ep s := by
  cases hr : attrV S.sg H f v with
  | none => simp only [hr] at k1; exact k1.elim
  | some r =>
    simp only [hr] at k1
    cases v with
    | inst C i =>
      simp only [attrV] at hr
      split at hr
      · rename_i hown
        obtain ⟨o1, o2, attr, o3, o4, _⟩ := ow C f hown
        split at hr
        · rename_i kvs hi
          cases hg : kvGet kvs f with
          | none => rw [hg] at hr; cases hr
          | some v =>
            rw [hg] at hr
            simp only [Option.bind_some] at hr
            split at hr
            · rename_i hng
              cases hr
              cases vr with
              | inst px hx =>
              obtain ⟨dx, ob, e, h4, h5, h3, r1⟩ := obj_at sr ar hi (.obj hx)
              cases e
              cases r1 with
              | dict r1 =>
              have := r1.getL f
              rw [hg] at this
              obtain ⟨y, g1, g2⟩ := this
              exact get_own sr.fr c.kin (inst_at (sr.im px) h3) o1 o2 o3 o4 g1 (g2.handed hng) (k1.fin0 (t1 := _) sr ar g2)
            · cases hr
        · cases hr
      · cases hr
    | _ => cases hr
theorem ok_attr {f : List Nat} (c : S.c.Ok) (ow : Own S) (hb : plainBase x = true) (h : EvalOK S n ck x d) :
    EvalOK S n ck (.Attribute x (St f) pos) (fun m H => (d m H).bind fun v H1 => Rs.of (attrV S.sg H1 f v) H1) := by
  intro A stk env L mc led frs ads m H s Qp Ep hh k
  dsimp only at k
  exact get_attr hb (h hh (k.bind fun v H1 xv h1 t1 ads1 led1 e1 sr ar ex vr k1 => prim_attr (s := { s with heap := h1, toks := t1 }) c ow sr ar vr k1))
end
end
-- A13
section
open PySem PySem.W PyProof.Rows PySem.Calls PySem.SeqAt
theorem SlotUp.keys : ∀ {a b : Led}, SlotUp a b → b.map (·.1) = a.map (·.1)
  | _, _, .nil => rfl
  | _, _, .cons _ r => by rw [List.map_cons, List.map_cons, r.keys]
theorem slots_of {h' : Heap} : ∀ (frs : Led), (∀ p ∈ frs, ∃ sl, h'.get? p.1 = some { p.2 with slots := sl } ∧ (sl = p.2.slots ∨ ¬ noFrame p.2)) → ∃ frs', SlotUp frs frs' ∧ ∀ p ∈ frs', h'.get? p.1 = some p.2
  | [], _ => ⟨[], .nil, fun _ hp => nomatch hp⟩
  | (a, o) :: r, hk => by
    obtain ⟨sl, e, hs⟩ := hk _ List.mem_cons_self
    obtain ⟨r', h1, h2⟩ := slots_of r fun p hp => hk p (List.mem_cons_of_mem _ hp)
    refine ⟨(a, { o with slots := sl }) :: r', .cons hs h1, fun p hp => ?_⟩
    rcases List.mem_cons.mp hp with rfl | hp
    · exact e
    · exact h2 p hp
theorem SlotUp.dict {a b : Led} (u : SlotUp a b) {x : Addr} {o : Obj} (h : (x, o) ∈ a) {es : Array DictEntry} {ep : Nat} (hd : o.data = .dict es ep) : ∃ o', (x, o') ∈ b ∧ o'.data = .dict es ep := by
  induction u with
  | nil => cases h
  | cons _ u ih =>
    rcases List.mem_cons.mp h with e | h
    · cases e
      exact ⟨_, List.mem_cons_self, hd⟩
    · obtain ⟨o', h4, h5⟩ := ih h
      exact ⟨o', List.mem_cons_of_mem _ h4, h5⟩
theorem stk_up {L : Addr} {frs frs' : Led} {stk : List Env} (h : StkOk L frs stk) (u : SlotUp frs frs') : StkOk L frs' stk := by
  intro e he
  obtain ⟨h1, L', h2, h3⟩ := h e he
  refine ⟨h1, L', h2, h3.imp id fun ⟨o, ho, es, ep, hd⟩ => ?_⟩
  obtain ⟨o', h4, h5⟩ := u.dict ho hd
  exact ⟨o', h4, es, ep, h5⟩
section
variable {c : Cx} {L : Addr} {mc : Str → Option Value} {led frs : Led} {h h' : Heap} {stk : List Env}
theorem SR.notL (x : SR c L mc led frs h) {p : Addr × Obj} (hp : p ∈ led ++ frs) : p.1 ≠ L := (x.nw p hp).2.1
theorem SR.baseL (x : SR c L mc led frs h) : c.base.get? L = none := by
  cases hq : c.base.get? L with
  | none => rfl
  | some o => exact absurd (Heap.lt_size hq) (Nat.not_lt.mpr x.fr.above)
theorem SR.funFrames (x : SR c L mc led frs h) (k : StkOk L frs stk) : h.FunFrames c.base stk := by
  induction stk with
  | nil => trivial
  | cons e r ih =>
    obtain ⟨h1, L', h2, h3⟩ := k e List.mem_cons_self
    refine ⟨h1, ?_, ih fun e' he => k e' (List.mem_cons_of_mem _ he)⟩
    rcases h3 with rfl | ⟨o, ho, es, ep, hd⟩
    · obtain ⟨o, es, ep, ho, hd, _⟩ := x.fr.ns
      exact ⟨L', o, h2, x.baseL, ho, fun vs q => by rw [hd] at q; cases q⟩
    · have := x.nw _ (List.mem_append_right _ ho)
      exact ⟨L', o, h2, this.2.2, this.1, fun vs q => by rw [hd] at q; cases q⟩
theorem frames_in (k : StkOk L frs stk) {b : Addr} (hb : b ∈ stk.filterMap (·.frame)) : b = L ∨ b ∈ frs.map (·.1) := by
  obtain ⟨e, he, hf⟩ := List.mem_filterMap.mp hb
  obtain ⟨_, L', h2, h3⟩ := k e he
  rw [h2] at hf; cases hf
  exact h3.imp id fun ⟨o, ho, _⟩ => List.mem_map_of_mem (f := (·.1)) ho
/-- after the frames' slots have been laid, an object of fields changed and some made -/
theorem SR.marked (x : SR c L mc led frs h) (k : StkOk L frs stk) (F : Addr → Prop) (hF : ∀ b, F b → c.base.get? b = none ∧ b ∉ (led ++ frs).map (·.1) ∧ b ≠ L)
    (k1 : ∀ b o, ¬ F b → b ∉ stk.filterMap (·.frame) → h.get? b = some o → h'.get? b = some o) (k2 : ∀ b o, ¬ F b → h.get? b = some o → ∃ sl, h'.get? b = some { o with slots := sl }) :
    ∃ frs', SlotUp frs frs' ∧ SR c L mc led frs' h' := by
  have inb : ∀ b o, h.get? b = some o → (c.base.get? b = some o) → h'.get? b = some o := fun b o ho hb => by
    refine k1 b o (fun q => by rw [(hF b q).1] at hb; cases hb) (fun q => ?_) ho
    rcases frames_in k q with rfl | q
    · rw [x.baseL] at hb; cases hb
    · obtain ⟨p, hp, rfl⟩ := List.mem_map.mp q
      rw [(x.nw p (List.mem_append_right _ hp)).2.2] at hb; cases hb
  have hnF : ∀ p ∈ frs, ¬ F p.1 := fun p hp q => (hF _ q).2.1 (List.mem_map_of_mem (f := (·.1)) (List.mem_append_right _ hp))
  obtain ⟨frs', u, g⟩ := slots_of (h' := h') frs fun p hp => by
    by_cases hfr : p.1 ∈ stk.filterMap (·.frame)
    · obtain ⟨sl, e⟩ := k2 p.1 p.2 (hnF p hp) (x.nw p (List.mem_append_right _ hp)).1
      refine ⟨sl, e, .inr fun hn => ?_⟩
      obtain ⟨e', he', hf'⟩ := List.mem_filterMap.mp hfr
      obtain ⟨_, L', h2, h3⟩ := k e' he'
      rw [h2] at hf'; cases hf'
      rcases h3 with rfl | ⟨o, ho, es, ep, hd⟩
      · exact x.notL (List.mem_append_right _ hp) rfl
      · have := (x.nw _ (List.mem_append_right _ ho)).1
        rw [(x.nw p (List.mem_append_right _ hp)).1] at this
        cases this
        exact hn es ep hd
    · exact ⟨p.2.slots, k1 p.1 p.2 (hnF p hp) hfr (x.nw p (List.mem_append_right _ hp)).1, .inl rfl⟩
  refine ⟨frs', u, ⟨?_, fun b o e => inb b o (x.fr.keep b o e) e, x.fr.above⟩, fun p hp => ?_, ?_⟩
  · obtain ⟨o, es, ep, ho, hd, r⟩ := x.fr.ns
    obtain ⟨sl, e⟩ := k2 L o (fun q => (hF _ q).2.2 rfl) ho
    exact ⟨_, es, ep, e, hd, r⟩
  · have keyIn : p.1 ∈ (led ++ frs).map (·.1) := by
      rw [List.map_append, ← u.keys, ← List.map_append]; exact List.mem_map_of_mem (f := (·.1)) hp
    obtain ⟨q, hq, e⟩ := List.mem_map.mp keyIn
    have hq' := x.nw q hq
    rw [e] at hq'
    refine ⟨?_, hq'.2.1, hq'.2.2⟩
    rcases List.mem_append.mp hp with hp | hp
    · refine k1 p.1 p.2 (fun q => (hF _ q).2.1 keyIn) (fun q => ?_) (x.get hp)
      rcases frames_in k q with q | q
      · exact x.notL (List.mem_append_left _ hp) q
      · exact x.off hp q
    · exact g p hp
  · rw [List.map_append, u.keys, ← List.map_append]; exact x.nd
end
/-- one entry more of a traceback -/
theorem note_entry {M : Model} {A : Around} {E : Value → Shared → Prop} {s : Shared} {base : Heap} {env : Env} {outer : List Env} {L e : Addr} {oe : Obj} {vs : Array Value} {head : Value} {hadNext : Bool} {Q : Unit → Shared → Prop}
    (hfr : A.frames = some (env :: outer)) (hl : s.heap.FunFrames base (env :: outer)) (hf : env.frame = some L)
    (he : s.heap.get? e = some oe) (hd : oe.data = .fields vs) (hsz : 1 < vs.size)
    (h : ∀ h' T oT ts, (∀ b o, b ≠ e → b ∉ (env :: outer).filterMap (·.frame) → s.heap.get? b = some o → h'.get? b = some o) → (∀ b o, b ≠ e → s.heap.get? b = some o → ∃ sl, h'.get? b = some { o with slots := sl }) →
      h'.get? e = some (oe.mapFields (·.setIfInBounds 1 (.ref T))) → s.heap.objs.size ≤ T → T ≠ e → h'.get? T = some oT → oT.data = .fields ts → ts[3]? = some (rawInt L) → Q () { s with heap := h' }) :
    wpAny M A (do let a ← frameOf env; let pl ← entryPlaceOf L hadNext; let b ← EntryCells.newEntry head a .none (rawInt L) .none pl; setField (.ref e) 1 b) Q E s := by
  have hene : e ∉ (env :: outer).filterMap (·.frame) := fun hm => by
    obtain ⟨_, o, ho, hnf⟩ := hl.mem hm
    rw [he] at ho; injection ho with ho; subst ho; exact hnf vs hd
  refine wpAny_bind (wpAny_frameOf_fun hfr hl hf fun h₁ hs₁ => wpAny_bind (wpAny_entryPlaceOf fun pl hpl => ?_))
  unfold EntryCells.newEntry newFields
  refine wpAny_bind (wpAny_newObj_type ?_ (hpl.sizeOk5 _ _ _ _ _))
  have g1 : h₁.get? e = some oe := (hs₁.2.1 e hene).trans he
  refine wpAny_setField (Heap.get?_push_of_some _ g1) hd hsz ?_
  have hTe : h₁.objs.size ≠ e := Nat.ne_of_gt (Heap.lt_size g1)
  have keep : ∀ b o (q : Obj), b ≠ e → h₁.get? b = some o → ((h₁.push q).update e (Obj.mapFields (·.setIfInBounds 1 (.ref h₁.objs.size)))).get? b = some o := fun b o q hb g => by
    rw [Heap.get?_update_other _ _ (Ne.symm hb)]
    exact Heap.get?_push_of_some _ g
  refine h _ h₁.objs.size _ _ (fun b o hb hn g => keep b o _ hb ((hs₁.2.1 b hn).trans g)) (fun b o hb g => ?_) (Heap.get?_update_self _ (Heap.get?_push_of_some _ g1) (Obj.isFreed_of_fields (Obj.data_mapFields hd _))) (Nat.le_of_eq hs₁.1.symm) hTe
    ((Heap.get?_update_other _ _ (Ne.symm hTe)).trans (Heap.get?_push_size _ rfl)) rfl ?_
  · obtain ⟨sl, g2⟩ := hs₁.2.2 b o g
    exact ⟨sl, keep b _ _ hb g2⟩
  · rcases hpl with rfl | ⟨_, _, _, _, _, _, _, rfl⟩ <;> simp
end
-- A14
section
open PySem PySem.W PyProof.Rows PySem.Calls PySem.SeqAt
theorem SR.high {c : Cx} {L : Addr} {mc : Str → Option Value} {led frs : Led} {h : Heap} (x : SR c L mc led frs h) {T : Addr} (hT : h.objs.size ≤ T) : T ≠ L ∧ T ∉ (led ++ frs).map (·.1) ∧ c.base.get? T = none := by
  refine ⟨fun e => ?_, fun hm => ?_, ?_⟩
  · obtain ⟨o, _, _, ho, _⟩ := x.fr.ns
    have := Heap.lt_size ho
    rw [e] at hT; exact absurd this (Nat.not_lt.mpr hT)
  · obtain ⟨q, hq, e⟩ := List.mem_map.mp hm
    have := Heap.lt_size (x.nw q hq).1
    rw [e] at this; exact absurd this (Nat.not_lt.mpr hT)
  · cases hq : c.base.get? T with
    | none => rfl
    | some o => exact absurd (Heap.lt_size (x.fr.keep _ _ hq)) (Nat.not_lt.mpr hT)
section
variable {S : Sta} {L : Addr} {mc : Str → Option Value} {led frs : Led} {ads : List Addr} {h h' : Heap} {stk : List Env} {p : V} {e : Addr}
theorem keys_up {frs' : Led} (u : SlotUp frs frs') : (led ++ frs').map (·.1) = (led ++ frs).map (·.1) := by rw [List.map_append, u.keys, ← List.map_append]
theorem note_fin {F : Addr → Prop} {X : Array Value → Prop} {vs : Array Value} {oe : Obj} {T : Addr} {oT : Obj} {ts : Array Value} (x : SR S.c L mc led frs h) (k : StkOk L frs stk)
    (fl : FliesG S L ads led frs h p e X) (he : h.get? e = some oe) (hd : oe.data = .fields vs) (hsz : 1 < vs.size) (hF : ∀ b, F b → S.c.base.get? b = none ∧ b ∉ (led ++ frs).map (·.1) ∧ b ≠ L)
    (k1 : ∀ b o, ¬ F b → b ∉ stk.filterMap (·.frame) → h.get? b = some o → h'.get? b = some o) (k2 : ∀ b o, ¬ F b → h.get? b = some o → ∃ sl, h'.get? b = some { o with slots := sl })
    (he' : h'.get? e = some (oe.mapFields (·.setIfInBounds 1 (.ref T)))) (hT : h.objs.size ≤ T) (hTe : T ≠ e) (gT : h'.get? T = some oT) (dT : oT.data = .fields ts) (t3 : ts[3]? = some (rawInt L)) :
    ∃ frs', SlotUp frs frs' ∧ SR S.c L mc led frs' h' ∧ Noted S L ads led frs' h' p e (rawInt L) := by
  obtain ⟨frs', u, sr⟩ := x.marked k F hF k1 k2
  obtain ⟨hT1, hT2, hT3⟩ := x.high hT
  refine ⟨frs', u, sr, ?_, fl.notL, by rw [keys_up u]; exact fl.off, fl.new⟩
  obtain ⟨oe0, vs0, de, es, n, pv, g1, g2, g3, g4, _, g5⟩ := fl.obj
  rw [he] at g1; cases g1
  rw [hd] at g4; cases g4
  refine ⟨_, _, de, es, n, pv, he', by rw [Obj.cls_mapFields]; exact g2, ?_, Obj.data_mapFields hd _, ⟨T, oT, ts, by simp [hsz], gT, dT, t3, hTe, hT1, by rw [keys_up u]; exact hT2, hT3⟩, g5⟩
  rw [← g3]
  unfold Obj.mapFields
  split <;> rfl
theorem note_go {M : Model} {A : Around} {E : Value → Shared → Prop} {s : Shared} {env : Env} {outer : List Env} {Q : Unit → Shared → Prop} (hfr : A.frames = some (env :: outer)) (hf : env.frame = some L)
    (k : StkOk L frs (env :: outer)) (x : SR S.c L mc led frs s.heap) (fl : Flies S L ads led frs s.heap p e (some L))
    (hq : ∀ h' frs', SlotUp frs frs' → SR S.c L mc led frs' h' → Noted S L ads led frs' h' p e (rawInt L) → Q () { s with heap := h' }) : wpAny M A (noteFrame (.ref e) env) Q E s := by
  obtain ⟨oe, vs, de, es, n, pv, g1, g2, g3, g4, g5, g6⟩ := fl.obj
  rcases g5 with g5 | ⟨x', ⟨T, oT, ts, t1, t2, t3, t4, t5, t6, t7, t8⟩, hx⟩
  · unfold noteFrame
    simp only [hf]
    refine wpAny_bind (wpAny_field g1 g4 g5 ?_)
    rw [if_neg (by decide)]
    refine note_entry hfr (x.funFrames k) hf g1 g4 (Array.getElem?_eq_some_iff.mp g5).1 fun h' T oT ts k1 k2 he' hT hTe gT dT e3 => ?_
    obtain ⟨frs', u, sr', nt⟩ := note_fin (F := fun b => b = e) x k fl g1 g4 (Array.getElem?_eq_some_iff.mp g5).1 (fun b hb => hb ▸ ⟨fl.new, fl.off, fl.notL⟩) k1 k2 he' hT hTe gT dT e3
    exact hq h' frs' u sr' nt
  · by_cases hx' : x' = rawInt L
    · subst hx'
      exact wpAny_noteFrame_inFlight hf g1 g4 t1 t2 t3 t4 (hq _ frs (.refl _) x ⟨⟨oe, vs, de, es, n, pv, g1, g2, g3, g4, ⟨T, oT, ts, t1, t2, t3, t4, t5, t6, t7, t8⟩, g6⟩, fl.notL, fl.off, fl.new⟩)
    · have hx0 : x' = .none := hx.elim id fun ⟨f, h1, h2⟩ => by cases h1; exact absurd h2 hx'
      subst hx0
      unfold noteFrame
      simp only [hf]
      refine wpAny_bind (wpAny_field g1 g4 t1 ?_)
      rw [if_pos (show (Value.ref T != Value.none) = true from by simp)]
      refine wpAny_bind (wpAny_field t2 t3 t4 ?_)
      rw [if_neg (show ¬ ((Value.none == rawInt L) = true) from by simp [rawInt])]
      refine wpAny_bind (wpAny_setField t2 t3 (Array.getElem?_eq_some_iff.mp t4).1 ?_)
      have other : ∀ b, b ≠ T → (s.heap.update T (Obj.mapFields (·.setIfInBounds 3 Value.none))).get? b = s.heap.get? b := fun b hb => Heap.get?_update_other _ _ (Ne.symm hb)
      have hsz : 1 < vs.size := (Array.getElem?_eq_some_iff.mp t1).1
      have hF : ∀ b, (b = e ∨ b = T) → S.c.base.get? b = none ∧ b ∉ (led ++ frs).map (·.1) ∧ b ≠ L := fun b hb => hb.elim (fun h => h ▸ ⟨fl.new, fl.off, fl.notL⟩) fun h => h ▸ ⟨t8, t7, t6⟩
      have ff : (s.heap.update T (Obj.mapFields (·.setIfInBounds 3 Value.none))).FunFrames S.c.base (env :: outer) :=
        (x.funFrames k).of_keeps fun b o ho hnf => ⟨o, (other b fun q => by rw [q, t2] at ho; cases ho; exact hnf _ t3).trans ho, rfl⟩
      refine note_entry hfr ff hf ((other e (Ne.symm t5)).trans g1) g4 hsz fun h' T' oT' ts' k1 k2 he' hT hTe gT dT e3 => ?_
      have hz : (s.heap.update T (Obj.mapFields (·.setIfInBounds 3 Value.none))).objs.size = s.heap.objs.size := Heap.size_after_update ..
      obtain ⟨frs', u, sr', nt⟩ := note_fin (F := fun b => b = e ∨ b = T) x k fl g1 g4 hsz hF
        (fun b o hb hn ho => k1 b o (fun q => hb (.inl q)) hn ((other b fun q => hb (.inr q)).trans ho)) (fun b o hb ho => k2 b o (fun q => hb (.inl q)) ((other b fun q => hb (.inr q)).trans ho))
        he' (by rw [← hz]; exact hT) hTe gT dT e3
      exact hq h' frs' u sr' nt
/-- the flight's mark set -/
theorem flight_go {M : Model} {A : Around} {E : Value → Shared → Prop} {s : Shared} {Q : Unit → Shared → Prop} {x0 : Value} {fo : Option Addr} (k : StkOk L frs stk) (x : SR S.c L mc led frs s.heap) (fl : Noted S L ads led frs s.heap p e x0)
    (hq : ∀ h', SR S.c L mc led frs h' → Noted S L ads led frs h' p e (fo.elim .none fun f => rawInt f) → Q () { s with heap := h' }) : wpAny M A (setFlight (.ref e) fo) Q E s := by
  obtain ⟨oe, vs, de, es, n, pv, g1, g2, g3, g4, ⟨T, oT, ts, t1, t2, t3, t4, t5, t6, t7, t8⟩, g6⟩ := fl.obj
  have hsz : 3 < ts.size := (Array.getElem?_eq_some_iff.mp t4).1
  unfold setFlight
  refine wpAny_bind (wpAny_field g1 g4 t1 ?_)
  rw [if_pos (show (Value.ref T != Value.none) = true from by simp)]
  refine wpAny_setField t2 t3 hsz ?_
  have other : ∀ b, b ≠ T → (s.heap.update T (Obj.mapFields (·.setIfInBounds 3 (fo.elim Value.none fun f => rawInt f)))).get? b = s.heap.get? b := fun b hb => Heap.get?_update_other _ _ (Ne.symm hb)
  refine hq _ ⟨⟨?_, fun b o ho => ?_, x.fr.above⟩, fun q hq => ?_, x.nd⟩ ⟨⟨oe, vs, de, es, n, pv, (other e (Ne.symm t5)).trans g1, g2, g3, g4, ⟨T, _, _, t1, Heap.get?_update_self _ t2 (Obj.isFreed_of_fields (Obj.data_mapFields t3 _)), Obj.data_mapFields t3 _, by simp [hsz], t5, t6, t7, t8⟩, g6⟩, fl.notL, fl.off, fl.new⟩
  · obtain ⟨o, es, ep, ho, r⟩ := x.fr.ns
    exact ⟨o, es, ep, (other L (Ne.symm t6)).trans ho, r⟩
  · exact (other b fun q => by rw [q, t8] at ho; cases ho).trans (x.fr.keep b o ho)
  · exact ⟨(other q.1 fun r => t7 (r ▸ List.mem_map_of_mem (f := (·.1)) hq)).trans (x.nw q hq).1, (x.nw q hq).2⟩
theorem Noted.flies {x : Value} {fo : Option Addr} (fl : Noted S L ads led frs h p e x) (hx : x = .none ∨ ∃ f, fo = some f ∧ x = rawInt f) : Flies S L ads led frs h p e fo := by
  obtain ⟨oe, vs, de, es, n, pv, g1, g2, g3, g4, g5, g6⟩ := fl.obj
  exact ⟨⟨oe, vs, de, es, n, pv, g1, g2, g3, g4, .inr ⟨x, g5, hx⟩, g6⟩, fl.notL, fl.off, fl.new⟩
theorem Flies.up {fo : Option Addr} (fl : Flies S L ads led frs h p e none) : Flies S L ads led frs h p e fo := by
  obtain ⟨oe, vs, de, es, n, pv, g1, g2, g3, g4, g5, g6⟩ := fl.obj
  refine ⟨⟨oe, vs, de, es, n, pv, g1, g2, g3, g4, g5.imp id fun ⟨x, h1, h2⟩ => ⟨x, h1, h2.imp id fun ⟨f, h3, _⟩ => nomatch h3⟩, g6⟩, fl.notL, fl.off, fl.new⟩
theorem leaving_go {M : Model} {A : Around} {E : Value → Shared → Prop} {s : Shared} {env : Env} {outer : List Env} {Q : Unit → Shared → Prop} (hfr : A.frames = some (env :: outer)) (hf : env.frame = some L)
    (k : StkOk L frs (env :: outer)) (x : SR S.c L mc led frs s.heap) (fl : Flies S L ads led frs s.heap p e (some L))
    (hq : ∀ h' frs', SlotUp frs frs' → SR S.c L mc led frs' h' → Noted S L ads led frs' h' p e .none → Q () { s with heap := h' }) : wpAny M A (leaving env (.ref e)) Q E s := by
  unfold leaving
  refine wpAny_bind (note_go hfr hf k x fl fun h1 frs1 u1 sr1 n1 => ?_)
  exact flight_go (s := { s with heap := h1 }) (fo := none) (stk_up k u1) sr1 n1 fun h2 sr2 n2 => hq h2 frs1 u1 sr2 n2
theorem back_go {M : Model} {A : Around} {E : Value → Shared → Prop} {s : Shared} {env : Env} {x0 : Value} (hf : env.frame = some L) (k : StkOk L frs stk) (x : SR S.c L mc led frs s.heap) (fl : Noted S L ads led frs s.heap p e x0)
    (hq : ∀ h', SR S.c L mc led frs h' → Noted S L ads led frs h' p e (rawInt L) → E (.ref e) { s with heap := h' }) : cameBackBy M A env E (.ref e) s := by
  unfold cameBackBy
  obtain ⟨oe, vs, de, es, n, pv, g1, g2, g3, g4, ⟨T, oT, ts, t1, t2, t3, t4, t5, t6, t7, t8⟩, g6⟩ := fl.obj
  refine wpAny_bind (wpAny_field g1 g4 t1 ?_)
  rw [if_neg (show ¬ ((Value.ref T == Value.none) = true) from by simp)]
  have : wpAny M A (setFlight (.ref e) env.frame) (fun _ s'' => E (.ref e) s'') E s := by
    rw [hf]
    exact flight_go (fo := some L) k x fl hq
  first
    | exact this
    | exact wpAny_bind (wpAny_pure this)
end
end
-- A15
section
open PySem PySem.W PyProof.Rows PySem.Calls PySem.SeqAt
structure HereS (S : Sta) (n : Nat) (ck : Ck) (A : Around) (stk : List Env) (env : Env) (L : Addr) (mc : Str → Option Value) (led frs : Led) (ads : List Addr) (m : Loc) (H : Hp) (s : Shared) : Prop where
  here : Here S n ck A stk env L mc led frs ads m H s
  fr : env.frame = some L
  tops : ∃ outer, stk = env :: outer
noncomputable def ZCont (S : Sta) (ck : Ck) (L : Addr) (frs : Led) (ads : List Addr) (led : Led) (s : Shared) (Qf : Flow → Shared → Prop) (Ep : Value → Shared → Prop) : Z → Prop
  | .next m' H' => ∀ h' tk' ads' led' mc', SR S.c L mc' led' frs h' → AR S.c ads' H' led' → Ext S.c ads led ads' led' → LR S.c ck.nm m' mc' ads' led' → Qf .next { s with heap := h', toks := tk' }
  | .ret v H' => ∀ x h' tk' ads' led' mc' frs', (frs' = frs ∨ (ck.soft = true ∧ SlotUp frs frs')) → SR S.c L mc' led' frs' h' → AR S.c ads' H' led' → Ext S.c ads led ads' led' → VR S.c.hf (Im S.c ads' led') ads' v x → Qf (.ret x) { s with heap := h', toks := tk' }
  | .exc p H' => ∀ e h' tk' ads' led' frs' mc', SlotUp frs frs' → SR S.c L mc' led' frs' h' → AR S.c ads' H' led' → Ext S.c ads led ads' led' → Flies S L ads' led' frs' h' p e (some L) → Ep (.ref e) { s with heap := h', toks := tk' }
  | .stuck => False
noncomputable def ExecsOK (S : Sta) (n : Nat) (ck : Ck) (body : List Stmt) (d : Loc → Hp → Z) : Prop :=
  ∀ {A : Around} {stk : List Env} {env : Env} {L : Addr} {mc : Str → Option Value} {led frs : Led} {ads : List Addr} {m : Loc} {H : Hp} {s : Shared} {Qf : Flow → Shared → Prop} {Ep : Value → Shared → Prop},
    HereS S n ck A stk env L mc led frs ads m H s → ZCont S ck L frs ads led s Qf Ep (d m H) → wpAny S.M A (execs body env) Qf Ep s
noncomputable def ExecOK (S : Sta) (n : Nat) (ck : Ck) (x : Stmt) (d : Loc → Hp → Z) : Prop :=
  ∀ {A : Around} {stk : List Env} {env : Env} {L : Addr} {mc : Str → Option Value} {led frs : Led} {ads : List Addr} {m : Loc} {H : Hp} {s : Shared} {Qf : Flow → Shared → Prop} {Ep : Value → Shared → Prop},
    HereS S n ck A stk env L mc led frs ads m H s → ZCont S ck L frs ads led s Qf Ep (d m H) → wpAny S.M A (exec x env) Qf Ep s
noncomputable abbrev Back (Qp Ep : Value → Shared → Prop) : Result → Shared → Prop := fun r s' => match r with
  | .ok (.ret v) => Qp v s'
  | .ok _ => False
  | .error e => Ep e s'
noncomputable def CallsOK (S : Sta) (n : Nat) (F : Fns) : Prop :=
  ∀ (f : Nat) (adr : Addr), S.fadr f = some adr → ∀ {A : Around} {stk : List Env} {L : Addr} {mc : Str → Option Value} {led frs : Led} {ads : List Addr} {H : Hp} {s : Shared} {vs : List V} {xs : List Value} {Qp Ep : Value → Shared → Prop},
    SR S.c L mc led frs s.heap → AR S.c ads H led → VRs S.c.hf (Im S.c ads led) ads vs xs → A.frames = some stk → StkOk L frs stk → A.handled = none → A.depth + 3 * n + 8 < recursionLimit → A.units + 40 * n + 80 < cLine →
    (S.soft f = true → ∀ p ∈ frs, noFrame p.2) → ECont S L mc frs ads led s Qp Ep (F f vs H) → codeAny S.M A (.call (.ref adr) ⟨xs, []⟩) (Back Qp Ep) s
inductive CodeOk (K : Frag) (fd : FuncData) : Prop where
  | mk (c : Addr) (oc : Obj) (vs : Array Value) (t : Tok) (c1 : fd.code = .ref c) (c2 : K.lookup c = some oc) (c3 : oc.data = .fields vs) (c4 : vs[1]? = some (.str fd.qualname t)) : CodeOk K fd
structure FnOk (S : Sta) (f : Nat) (fn : Fn) (fd : FuncData) (body : List Stmt) (ds : List Value) : Prop where
  adr : S.fadr f = some fn.addr
  obj : ∃ o, S.c.K.lookup fn.addr = some o ∧ o.data = .func fd
  code : CodeOk S.c.K fd
  bod : fd.body = .stmts body
  gl : fd.globals = mainGlobals
  bl : fd.builtins = builtinsNs
  cell : ∀ x ∈ fd.scope.names, x.2 ≠ .cell
  par : ∀ x ∈ fn.nm.take fn.np, fd.scope.names.lookup x = some .local
  co : fd.scope.isCoroutine = false
  gen : fd.scope.isGenerator = false
  kind : fd.scope.kind = .function
  nd : fn.nm.Nodup
  np : fn.np ≤ fn.nm.length
  dl : fn.dfl.length ≤ fn.np
  dfl : VRs S.c.hf (fun a o => S.c.base.get? a = some o) [] fn.dfl ds
  binds : ∀ (s : Shared) (xs : List Value), S.c.K.In s.heap → xs.length ≤ fn.np → fn.np ≤ xs.length + ds.length → BindsTo s fd ⟨xs, []⟩ ((fn.nm.take fn.np).zip (xs ++ ds.drop (ds.length + xs.length - fn.np)))
theorem zip_keys : ∀ (ks : List Str) (xs : List Value), ks.Nodup → ((ks.zip xs).map (·.1)).Nodup ∧ ∀ k ∈ (ks.zip xs).map (·.1), k ∈ ks
  | [], _, _ => ⟨by simp, by simp⟩
  | _ :: _, [], _ => ⟨by simp, by simp⟩
  | k :: ks, x :: xs, h => by
    rw [List.nodup_cons] at h
    have ih := zip_keys ks xs h.2
    rw [List.zip_cons_cons, List.map_cons, List.nodup_cons]
    refine ⟨⟨fun hm => h.1 (ih.2 _ hm), ih.1⟩, fun a ha => ?_⟩
    rcases List.mem_cons.mp ha with rfl | ha
    · exact List.mem_cons_self
    · exact List.mem_cons_of_mem _ (ih.2 a ha)
theorem lookup_rev_zip : ∀ {ks : List Str} {xs : List Value}, ks.Nodup → ∀ {i : Nat} {x : Str} {y : Value}, ks[i]? = some x → xs[i]? = some y → ((ks.zip xs).reverse).lookup x = some y := by
  intro ks xs nd i x y hx hy
  have key : ∀ (l : List (Str × Value)), (l.map (·.1)).Nodup → (x, y) ∈ l → l.lookup x = some y := by
    intro l
    induction l with
    | nil => intro _ h; cases h
    | cons p r ih =>
      intro hn hm
      obtain ⟨a, b⟩ := p
      rw [List.map_cons, List.nodup_cons] at hn
      rcases List.mem_cons.mp hm with e | hm
      · cases e; simp [List.lookup]
      · have : x ≠ a := fun e => hn.1 (e ▸ List.mem_map_of_mem (f := (·.1)) hm)
        rw [List.lookup_cons]
        have hb : (x == a) = false := by simpa using this
        rw [hb]
        exact ih hn.2 hm
  refine key _ ?_ ?_
  · rw [List.map_reverse]
    exact ((List.reverse_perm _).nodup_iff).mpr (zip_keys ks xs nd).1
  · rw [List.mem_reverse]
    refine List.mem_of_getElem? (i := i) ?_
    rw [List.getElem?_zip_eq_some]
    exact ⟨hx, hy⟩
theorem start_lr {S : Sta} {fn : Fn} {vs : List V} {xs ds : List Value} {m : Loc} {ads : List Addr} {led : Led} (nd : fn.nm.Nodup) (np : fn.np ≤ fn.nm.length) (hm : startL fn vs = some m) (hv : VRs S.c.hf (Im S.c ads led) ads vs xs)
    (hd : VRs S.c.hf (fun a o => S.c.base.get? a = some o) [] fn.dfl ds) :
    xs.length ≤ fn.np ∧ fn.np ≤ xs.length + ds.length ∧ LR S.c fn.nm m (fun x => (((fn.nm.take fn.np).zip (xs ++ ds.drop (ds.length + xs.length - fn.np))).reverse).lookup x) ads led := by
  unfold startL at hm
  split at hm
  · rename_i hc
    cases hm
    have l1 := hv.length
    have l2 := hd.length
    refine ⟨by omega, by omega, fun i v hi => ?_⟩
    have hd' : VRs S.c.hf (Im S.c ads led) ads fn.dfl ds := hd.mono (fun a o q => .inr q) fun i a q => by simp at q
    have hdrop : ∀ (k : Nat) {ws : List V} {ys : List Value}, VRs S.c.hf (Im S.c ads led) ads ws ys → VRs S.c.hf (Im S.c ads led) ads (ws.drop k) (ys.drop k) := by
      intro k
      induction k with
      | zero => intro ws ys h; exact h
      | succ k ih => intro ws ys h; cases h with
        | nil => simpa using VRs.nil
        | cons a r => simpa using ih r
    have hall := hv.append (hdrop (fn.dfl.length + vs.length - fn.np) hd')
    rw [l1, l2] at hall
    have hlen : (vs ++ fn.dfl.drop (fn.dfl.length + vs.length - fn.np)).length = fn.np := by
      rw [List.length_append, List.length_drop]; omega
    by_cases hi2 : i < fn.np
    · rw [List.getElem?_append_left (by rw [List.length_map, hlen]; exact hi2), List.getElem?_map] at hi
      cases hq : (vs ++ fn.dfl.drop (fn.dfl.length + vs.length - fn.np))[i]? with
      | none => rw [hq] at hi; cases hi
      | some v' =>
        rw [hq] at hi
        have : v' = v := by simpa using hi
        subst this
        rw [l1, l2] at hq
        obtain ⟨y, hy, hr⟩ := hall.get hq
        have hlt : i < fn.nm.length := by omega
        refine ⟨fn.nm[i], y, List.getElem?_eq_getElem hlt, ?_, hr⟩
        refine lookup_rev_zip (nd.sublist (List.take_sublist _ _)) (i := i) ?_ hy
        rw [List.getElem?_take, if_pos hi2, List.getElem?_eq_getElem hlt]
    · rw [List.getElem?_append_right (by rw [List.length_map, hlen]; omega)] at hi
      rw [List.getElem?_replicate] at hi
      split at hi <;> cases hi
  · cases hm
theorem in_get {K : Frag} {h : Heap} (X : K.In h) {a : Addr} {o : Obj} (e : K.lookup a = some o) : h.get? a = some o := X a o e
/-- a function's body walked is the function called -/
theorem call_fn {S : Sta} {n : Nat} {f : Nat} {fn : Fn} {fd : FuncData} {body : List Stmt} {ds : List Value} {D : Loc → Hp → Z} (cok : S.c.Ok) (ok : FnOk S f fn fd body ds) (hb : ExecsOK S n ⟨fd.scope, fn.nm, false, S.soft f⟩ body D)
    {A : Around} {stk : List Env} {L : Addr} {mc : Str → Option Value} {led frs : Led} {ads : List Addr} {H : Hp} {s : Shared} {vs : List V} {xs : List Value} {m : Loc} {Qp Ep : Value → Shared → Prop} (hm : startL fn vs = some m)
    (sr : SR S.c L mc led frs s.heap) (ar : AR S.c ads H led) (hv : VRs S.c.hf (Im S.c ads led) ads vs xs) (hfr : A.frames = some stk) (hst : StkOk L frs stk) (hh : A.handled = none) (hdep : A.depth + 3 * (n + 1) + 8 < recursionLimit) (hun : A.units + 40 * (n + 1) + 80 < cLine)
    (hsoft : S.soft f = true → ∀ p ∈ frs, noFrame p.2)
    (k : ECont S L mc frs ads led s Qp Ep (match D m H with
      | .next _ H1 => .ok .none H1
      | .ret v H1 => .ok v H1
      | .exc p H1 => .exc p H1
      | .stuck => .stuck)) : codeAny S.M A (.call (.ref fn.addr) ⟨xs, []⟩) (Back Qp Ep) s := by
  obtain ⟨x1, x2, lr⟩ := start_lr ok.nd ok.np hm hv ok.dfl
  obtain ⟨o, o1, o2⟩ := ok.obj
  obtain ⟨cc, oc, cvs, ct, c1, c2, c3, c4⟩ := ok.code
  have X := sr.kin cok
  have hlim : s.heap.NoLimit := by
    obtain ⟨mcc, q1, q2⟩ := cok.nolim
    exact ⟨mcc, q1.keeps sr.fr.keep, q2⟩
  refine (codeAny_call_def (by omega) (in_get X o1) o2 hlim ⟨cc, oc, cvs, ct, c1, in_get X c2, c3, c4⟩ ok.bod (ok.binds s xs X x1 x2) ok.cell ?_ (fun h₀ hns hkeep => ?_) ok.co ok.gen ok.kind)
  · intro x hx
    exact ok.par x.1 (List.of_mem_zip (a := x.1) (b := x.2) hx).1
  · obtain ⟨oL, esL, epL, gL, dL, rL⟩ := sr.fr.ns
    have hLs := Heap.lt_size gL
    have sr0 : SR S.c s.heap.objs.size (fun x => (((fn.nm.take fn.np).zip (xs ++ ds.drop (ds.length + xs.length - fn.np))).reverse).lookup x) led ((L, oL) :: frs) h₀ := by
      refine ⟨⟨hns, fun b o e => hkeep b o (sr.fr.keep b o e), Nat.le_trans sr.fr.above (Nat.le_of_lt hLs)⟩, fun p hp => ?_, ?_⟩
      · have hp' : p ∈ led ++ frs ∨ p = (L, oL) := by
          rcases List.mem_append.mp hp with q | q
          · exact .inl (List.mem_append_left _ q)
          · rcases List.mem_cons.mp q with q | q
            · exact .inr q
            · exact .inl (List.mem_append_right _ q)
        rcases hp' with q | rfl
        · have := sr.nw p q
          exact ⟨hkeep _ _ this.1, Nat.ne_of_lt (Heap.lt_size this.1), this.2.2⟩
        · exact ⟨hkeep _ _ gL, Nat.ne_of_lt hLs, sr.baseL⟩
      · have e : (led ++ (L, oL) :: frs).Perm ((L, oL) :: (led ++ frs)) := List.perm_middle
        refine (e.map _).nodup_iff.mpr ?_
        rw [List.map_cons, List.nodup_cons]
        refine ⟨fun hm => ?_, sr.nd⟩
        obtain ⟨q, hq, e⟩ := List.mem_map.mp hm
        exact sr.notL hq e
    have hst' : StkOk s.heap.objs.size ((L, oL) :: frs) (callEnv fd s.heap.objs.size fn.addr :: stk) := by
      intro e he
      rcases List.mem_cons.mp he with rfl | he
      · refine ⟨?_, s.heap.objs.size, rfl, .inl rfl⟩
        show fd.scope.kind ≠ .module
        rw [ok.kind]; exact fun h => nomatch h
      · obtain ⟨q1, L', q2, q3⟩ := hst e he
        refine ⟨q1, L', q2, .inr ?_⟩
        rcases q3 with rfl | ⟨o, q3, q4⟩
        · exact ⟨oL, List.mem_cons_self, esL, epL, dL⟩
        · exact ⟨o, List.mem_cons_of_mem _ q3, q4⟩
    have hfr' : (A.deeper (callEnv fd s.heap.objs.size fn.addr)).frames = some (callEnv fd s.heap.objs.size fn.addr :: stk) := Around.frames_deeper hfr
    have hh0 : HereS S n ⟨fd.scope, fn.nm, false, S.soft f⟩ (A.deeper (callEnv fd s.heap.objs.size fn.addr)) (callEnv fd s.heap.objs.size fn.addr :: stk) (callEnv fd s.heap.objs.size fn.addr) s.heap.objs.size _ led ((L, oL) :: frs) ads m H
        { s with heap := h₀, toks := s.toks + ((fn.nm.take fn.np).zip (xs ++ ds.drop (ds.length + xs.length - fn.np))).length } :=
      ⟨⟨⟨rfl, ok.kind, rfl, ok.gl, ok.bl⟩, sr0, ar, lr, hfr', hst', hh, by show A.depth + 1 + 3 * n + 10 < _; omega, by show A.units + 3 + 40 * n + 100 < _; omega, fun h => nomatch h⟩, rfl, _, rfl⟩
    -- back in the caller's frame
    have back : ∀ {led' frs2 : Led} {h' : Heap} {mc' : Str → Option Value}, SR S.c s.heap.objs.size mc' led' frs2 h' → ∀ {sl : Array (Option Value)} {frs' : Led}, frs2 = (L, { oL with slots := sl }) :: frs' → SR S.c L mc led' frs' h' := by
      intro led' frs2 h' mc' sr2 sl frs' e
      subst e
      have gL' := sr2.nw (L, { oL with slots := sl }) (List.mem_append_right _ List.mem_cons_self)
      have sr3 := sr2.drop
      refine ⟨⟨⟨_, esL, epL, gL'.1, dL, rL⟩, sr2.fr.keep, sr.fr.above⟩, fun p hp => ⟨(sr3.nw p hp).1, fun e => ?_, (sr3.nw p hp).2.2⟩, sr3.nd⟩
      have nd := sr2.nd
      have e' : (led' ++ (L, { oL with slots := sl }) :: frs').Perm ((L, { oL with slots := sl }) :: (led' ++ frs')) := List.perm_middle
      rw [(e'.map _).nodup_iff, List.map_cons, List.nodup_cons] at nd
      exact nd.1 (e ▸ List.mem_map_of_mem (f := (·.1)) hp)
    refine hb hh0 ?_
    cases hD : D m H with
    | next m1 H1 =>
      rw [hD] at k
      intro h' tk' ads' led' mc' sr' ar' ex' lr'
      exact k .none h' tk' ads' led' (back sr' (sl := oL.slots) rfl) ar' ex' .none
    | ret v H1 =>
      rw [hD] at k
      intro x h' tk' ads' led' mc' frs' hf sr' ar' ex' vr'
      rcases hf with rfl | ⟨hs, hu⟩
      · exact k x h' tk' ads' led' (back sr' (sl := oL.slots) rfl) ar' ex' vr'
      · cases hu with
        | cons _ u =>
          rw [u.same (hsoft hs)] at sr'
          exact k x h' tk' ads' led' (back sr' rfl) ar' ex' vr'
    | exc p H1 =>
      rw [hD] at k
      intro e h' tk' ads' led' frs' mc' hu sr' ar' ex' fl'
      refine leaving_go (L := s.heap.objs.size) hfr' rfl (stk_up hst' hu) sr' fl' fun h2 frs2 u2 sr2 n2 => ?_
      have hu2 := hu.trans u2
      cases hu2 with
      | cons _ u =>
        refine k e h2 tk' ads' led' _ u (back sr2 rfl) ar' ex' ?_
        obtain ⟨oe, vs', de, es, n', pv, g1, g2, g3, g4, ⟨T, oT, ts, t1, t2, t3, t4, t5, t6, t7, t8⟩, g6⟩ := n2.obj
        have off := n2.off
        have notIn : ∀ {b : Addr} {sl : Array (Option Value)} {frs' : Led}, b ∉ (led' ++ (L, { oL with slots := sl }) :: frs').map (·.1) → b ∉ (led' ++ frs').map (·.1) ∧ b ≠ L := by
          intro b sl frs' hb
          rw [List.map_append, List.map_cons] at hb
          rw [List.map_append]
          refine ⟨fun q => hb ?_, fun q => hb ?_⟩
          · rcases List.mem_append.mp q with q | q
            · exact List.mem_append_left _ q
            · exact List.mem_append_right _ (List.mem_cons_of_mem _ q)
          · rw [q]; exact List.mem_append_right _ List.mem_cons_self
        exact ⟨⟨oe, vs', de, es, n', pv, g1, g2, g3, g4, .inr ⟨.none, ⟨T, oT, ts, t1, t2, t3, t4, t5, (notIn t7).2, (notIn t7).1, t8⟩, .inl rfl⟩, g6⟩, (notIn off).2, (notIn off).1, n2.new⟩
    | stuck => rw [hD] at k; exact k.elim
end
-- A16
section
open PySem PySem.W PyProof.Rows PySem.Calls PySem.SeqAt
/-- a function by its global name -/
structure FnNm (S : Sta) (ck : Ck) (f : Str) (k : Nat) : Prop where
  nm : ck.sc.names.lookup f = some .globalImplicit
  nd : (f == ("__debug__" : Str)) = false
  glo : ∃ adr, S.c.mg f = some (.ref adr) ∧ S.fadr k = some adr ∧ keepIn S.c.K (.ref adr) = true
  soft : S.soft k = true → ck.top = true
/-- a method of a class -/
structure MethNm (S : Sta) (name : Str) (k : Nat) : Prop where
  nm : ∃ C n adr, S.sg.cls k = some C ∧ S.sg.mname k = some n ∧ name = St n ∧ S.fadr k = some adr ∧ keepIn S.c.K (.ref adr) = true ∧ plainGet S.c.K C name = true ∧ findIn S.c.K (.ref C) name = some (some (.ref adr)) ∧ isFn S.c.K (.ref adr) = true
  soft : S.soft k = false
/-- a class by its global name; k: its __init__ -/
structure ClsNm (S : Sta) (ck : Ck) (f : Str) (k : Nat) : Prop where
  nm : ck.sc.names.lookup f = some .globalImplicit
  nd : (f == ("__debug__" : Str)) = false
  glo : ∃ C adr, S.c.mg f = some (.ref C) ∧ S.sg.cls k = some C ∧ S.fadr k = some adr ∧ keepIn S.c.K (.ref C) = true ∧ makesIn S.c.K C = true ∧ findIn S.c.K (.ref C) "__init__" = some (some (.ref adr)) ∧ isFn S.c.K (.ref adr) = true
  soft : S.soft k = false
section
variable {S : Sta} {n : Nat} {ck : Ck} {F : Fns}
theorem named {A : Around} {stk : List Env} {env : Env} {L : Addr} {mc : Str → Option Value} {led frs : Led} {ads : List Addr} {m : Loc} {H : Hp} {s : Shared} {Qp Ep : Value → Shared → Prop} {f : Str} {p : Pos} {v : Value} (c : S.c.Ok) (hh : Here S n ck A stk env L mc led frs ads m H s)
    (nm : ck.sc.names.lookup f = some .globalImplicit) (nd : (f == ("__debug__" : Str)) = false) (g : S.c.mg f = some v) (h : Qp v s) : wpAny S.M A (eval (.Name f p) env) Qp Ep s := by
  have hek : env.kindOf f = some .globalImplicit := by show env.scope.names.lookup f = _; rw [hh.env.sc]; exact nm
  exact Name_function_global (by rw [hh.env.sc]; exact hh.env.kind) hek (loadGlobal_global (by rw [hh.env.gl]; exact c.g.keeps hh.sr.fr.keep) g h) nd
/-- the arguments of a call, then the call -/
theorem with_args {xs : List Expr} {ds : Loc → Hp → Rs (List V)} (c : S.c.Ok) (hxs : EvalsOK S n ck xs ds) (hst : xs.all notStar = true) {A : Around} {stk : List Env} {env : Env} {L : Addr} {mc : Str → Option Value} {led frs : Led} {ads : List Addr} {m : Loc} {H : Hp} {s : Shared} {Qp Ep : Value → Shared → Prop}
    {pos : Pos} {f : Value} {first : List Value} {g : List V → Hp → Rs V} (hh : Here S n ck A stk env L mc led frs ads m H s) (hk : keepIn S.c.K f = true) (k : ECont S L mc frs ads led s Qp Ep ((ds m H).bind g))
    (h : ∀ vs H1 ys h1 t1 ads1 led1, ds m H = .ok vs H1 → SR S.c L mc led1 frs h1 → AR S.c ads1 H1 led1 → Ext S.c ads led ads1 led1 → VRs S.c.hf (Im S.c ads1 led1) ads1 vs ys → ECont S L mc frs ads1 led1 { s with heap := h1, toks := t1 } Qp Ep (g vs H1) →
      wpAny S.M A (call f (first ++ ys)) Qp Ep { s with heap := h1, toks := t1 }) : wpAny S.M A (callWith pos f first (backTo pos (starEach xs env)) []) Qp Ep s := by
  cases xs with
  | nil =>
    refine callWith_K0 (hh.sr.kin c) hk ?_
    have e := hxs.none rfl m H
    rw [e] at k
    exact h [] H [] s.heap s.toks ads led e hh.sr hh.ar .refl .nil k
  | cons x rest =>
    rw [List.all_cons, Bool.and_eq_true] at hst
    refine callWith_K (c.kin) hk (hxs.run hh (k.lbind fun vs H1 ys h1 t1 ads1 led1 e sr ar ex vr k1 => ⟨sr.kin c, h vs H1 ys h1 t1 ads1 led1 e sr ar ex vr k1⟩)) (star_of hst.1 env) (noStar hst.2 env)
theorem ok_call {f : Str} {i : Nat} {xs : List Expr} {p pos : Pos} {ds : Loc → Hp → Rs (List V)} (c : S.c.Ok) (hF : CallsOK S n F) (b : FnNm S ck f i) (hxs : EvalsOK S n ck xs ds) (hst : xs.all notStar = true) :
    EvalOK S n ck (.Call (.Name f p) xs [] pos) (fun m H => (ds m H).bind fun vs H1 => F i vs H1) := by
  intro A stk env L mc led frs ads m H s Qp Ep hh k
  dsimp only at k
  obtain ⟨adr, g1, g2, g3⟩ := b.glo
  refine Call_ (named c hh b.nm b.nd g1 (with_args c hxs hst hh g3 k fun vs H1 ys h1 t1 ads1 led1 e sr ar ex vr k1 => ?_))
  exact wpAny_call (hF i adr g2 (s := { s with heap := h1, toks := t1 }) sr ar vr hh.fra hh.stk hh.hd (by have := hh.room; omega) (by have := hh.units; omega) (fun h => hh.tp (b.soft h)) k1)
theorem ok_meth {x : Expr} {name : Str} {i : Nat} {xs : List Expr} {ap pos : Pos} {d : Loc → Hp → Rs V} {ds : Loc → Hp → Rs (List V)} (c : S.c.Ok) (hF : CallsOK S n F) (b : MethNm S name i) (hbase : plainBase x = true) (hp : (ap.endLine == pos.line) = true) (hl : xs.length < 30)
    (hx : EvalOK S n ck x d) (hxs : EvalsOK S n ck xs ds) (hst : xs.all notStar = true) :
    EvalOK S n ck (.Call (.Attribute x name ap) xs [] pos) (fun m H => (d m H).bind fun v H1 => match v with
      | .inst c j => match S.sg.cls i, S.sg.mname i, H1[j]? with
        | some c', some n, some (.dict kvs) => if c = c' ∧ kvGet kvs n = none then (ds m H1).bind fun vs H2 => F i (.inst c j :: vs) H2 else .stuck
        | _, _, _ => .stuck
      | _ => .stuck) := by
  intro A stk env L mc led frs ads m H s Qp Ep hh k
  dsimp only at k
  obtain ⟨C, nn, adr, g1, g2, rfl, g3, g4, g5, g6, g7⟩ := b.nm
  refine call_m hbase hst hl hp (hx hh (k.bind fun v H1 xv h1 t1 ads1 led1 e sr ar ex vr k1 pl => ?_))
  cases v with
  | inst cc j =>
    dsimp only at k1
    rw [g1, g2] at k1
    split at k1
    · rename_i c' n' kvs e1 e2 hi
      cases e1; cases e2
      split at k1
      · rename_i hc
        obtain ⟨rfl, hkv⟩ := hc
        have vr0 := vr
        cases vr0 with
        | inst px hx0 =>
        obtain ⟨dx, ob, e, h4, h5, h3, r1⟩ := obj_at (s := { s with heap := h1, toks := t1 }) sr ar hi (.obj hx0)
        cases e
        cases r1 with
        | dict r1 =>
        have := r1.getL nn
        rw [hkv] at this
        refine method_inst (s := { s with heap := h1, toks := t1 }) sr.fr c.kin (inst_at (sr.im px) h3) g5 g6 g7 this (with_args (s := { s with heap := h1, toks := t1 }) c hxs hst (hh.step sr ar ex) g4 k1 fun vs H2 ys h2 t2 ads2 led2 e sr2 ar2 ex2 vr2 k2 => ?_)
        exact wpAny_call (hF i adr g3 (s := { s with heap := h2, toks := t2 }) sr2 ar2 (.cons (ex2.vr vr) vr2) hh.fra hh.stk hh.hd (by have := hh.room; omega) (by have := hh.units; omega) (fun h => by rw [b.soft] at h; cases h) k2)
      · exact k1.elim
    · exact k1.elim
  | _ => exact k1.elim
theorem weight_new (a : Addr) (r : List Value) : (Code.builtin "type.__call__" ⟨.ref a :: r, []⟩).weight ≤ 2 := by
  unfold Code.weight
  have e1 : Code.frames (.builtin "type.__call__" ⟨.ref a :: r, []⟩) = 0 := rfl
  have e2 : Code.isCaller (.builtin "type.__call__" ⟨.ref a :: r, []⟩) = false := by
    unfold Code.isCaller
    simp
  rw [e1, e2]
  split <;> split <;> simp
theorem ok_new {f : Str} {i : Nat} {xs : List Expr} {p pos : Pos} {ds : Loc → Hp → Rs (List V)} (c : S.c.Ok) (hF : CallsOK S n F) (b : ClsNm S ck f i) (hxs : EvalsOK S n ck xs ds) (hst : xs.all notStar = true) :
    EvalOK S n ck (.Call (.Name f p) xs [] pos) (fun m H => (ds m H).bind fun vs H1 => match S.sg.cls i with
      | some c => match F i (.inst c H1.length :: vs) (H1 ++ [.dict []]) with
        | .ok .none H2 => .ok (.inst c H1.length) H2
        | _ => .stuck
      | none => .stuck) := by
  intro A stk env L mc led frs ads m H s Qp Ep hh k
  dsimp only at k
  obtain ⟨C, adr, g1, g2, g3, g4, g5, g6, g7⟩ := b.glo
  refine Call_ (named c hh b.nm b.nd g1 (with_args c hxs hst hh g4 k fun vs H1 ys h1 t1 ads1 led1 e sr ar ex vr k1 => ?_))
  rw [g2] at k1
  dsimp only at k1
  refine call_cls (s := { s with heap := h1, toks := t1 }) sr.fr c.kin sr.nw g5 g6 g7 fun x dx h' F' N' hn hlt => ?_
  have hnm : ∀ p ∈ led1 ++ frs, p.1 ≠ dx ∧ p.1 ≠ x := fun p hp => ⟨Nat.ne_of_lt (hn p hp), Nat.ne_of_lt (Nat.lt_trans (hn p hp) hlt)⟩
  have hk1 : dx ∉ led1.map (·.1) := fun hm => by
    obtain ⟨q, hq, e⟩ := List.mem_map.mp hm
    exact (hnm q (List.mem_append_left _ hq)).1 e
  have hk2 : x ∉ led1.map (·.1) := fun hm => by
    obtain ⟨q, hq, e⟩ := List.mem_map.mp hm
    exact (hnm q (List.mem_append_left _ hq)).2 e
  have sr1 : SR S.c L mc ((x, instObj C dx) :: (dx, dictOf [] 0) :: led1) frs h' := by
    refine ⟨F', N', ?_⟩
    rw [List.cons_append, List.cons_append, List.map_cons, List.map_cons, List.nodup_cons, List.nodup_cons]
    refine ⟨fun hm => ?_, fun hm => ?_, sr.nd⟩
    · rcases List.mem_cons.mp hm with e | hm
      · exact Nat.ne_of_gt hlt e
      · obtain ⟨q, hq, e⟩ := List.mem_map.mp hm
        exact (hnm q hq).2 e
    · obtain ⟨q, hq, e⟩ := List.mem_map.mp hm
      exact (hnm q hq).1 e
  have ar1 : AR S.c (ads1 ++ [dx]) (H1 ++ [.dict []]) ((x, instObj C dx) :: (dx, dictOf [] 0) :: led1) := (ar.newM hk1 (.dict .nil)).new
  have hxa : x ∉ ads1 ++ [dx] := fun hm => by
    rcases List.mem_append.mp hm with hm | hm
    · obtain ⟨j, hj⟩ := List.mem_iff_getElem?.mp hm
      have hl : j < H1.length := by rw [← ar.len]; exact (List.getElem?_eq_some_iff.mp hj).1
      obtain ⟨b', z, q1, q2, _⟩ := ar.ob j H1[j] (List.getElem?_eq_getElem hl)
      rw [hj] at q1; cases q1
      exact hk2 (List.mem_map_of_mem (f := (·.1)) q2)
    · exact Nat.ne_of_gt hlt (List.mem_singleton.mp hm)
  have ex1 : Ext S.c ads1 led1 (ads1 ++ [dx]) ((x, instObj C dx) :: (dx, dictOf [] 0) :: led1) := (ext_newM hk1).trans ext_new
  have vself : VR S.c.hf (Im S.c (ads1 ++ [dx]) ((x, instObj C dx) :: (dx, dictOf [] 0) :: led1)) (ads1 ++ [dx]) (.inst C H1.length) (.ref x) :=
    .inst (.inl ⟨List.mem_cons_self, hxa⟩) (by rw [← ar.len, List.getElem?_append_right (Nat.le_refl _)]; simp)
  refine hF i adr g3 (s := { s with heap := h', toks := t1 }) (stk := stk) (Qp := fun v s' => v = .none ∧ Qp (.ref x) s') (Ep := Ep) sr1 ar1 (.cons vself (ex1.vrs vr)) hh.fra hh.stk hh.hd ?_ ?_ (fun h => by rw [b.soft] at h; cases h) ?_
  · have := hh.room
    have := weight_new C ([] ++ ys)
    show A.depth + _ + 3 * n + 8 < _
    omega
  · have := hh.units
    show A.units + 1 + 40 * n + 80 < _
    omega
  · cases hFv : F i (.inst C H1.length :: vs) (H1 ++ [.dict []]) with
    | ok v H2 =>
      rw [hFv] at k1
      cases v with
      | none =>
        intro xv h2 t2 ads2 led2 sr2 ar2 ex2 vr2
        cases vr2
        exact ⟨rfl, k1.fin (t1 := t2) sr2 ar2 (ex1.trans ex2) (ex2.vr vself)⟩
      | _ => exact k1.elim
    | exc p H2 => rw [hFv] at k1; exact k1.elim
    | stuck => rw [hFv] at k1; exact k1.elim
end
end
-- A17
section
open PySem PySem.W PyProof.Rows PySem.Calls PySem.SeqAt
section
variable {c : Cx} {L : Addr} {mc : Str → Option Value} {led frs : Led} {h h' : Heap} {ads : List Addr} {H : Hp}
theorem AR.notin (ar : AR c ads H led) {a : Addr} (hn : a ∉ led.map (·.1)) : a ∉ ads := fun hm => by
  obtain ⟨j, hj⟩ := List.mem_iff_getElem?.mp hm
  have hl : j < H.length := by rw [← ar.len]; exact (List.getElem?_eq_some_iff.mp hj).1
  obtain ⟨b', z, q1, q2, _⟩ := ar.ob j H[j] (List.getElem?_eq_getElem hl)
  rw [hj] at q1; cases q1
  exact hn (List.mem_map_of_mem (f := (·.1)) q2)
theorem SR.perm {frs' : Led} (x : SR c L mc led frs h) (e : frs.Perm frs') : SR c L mc led frs' h :=
  ⟨x.fr, fun p hp => x.nw p ((List.Perm.append_left led e).mem_iff.mpr hp), (((List.Perm.append_left led e).map _).nodup_iff).mp x.nd⟩
theorem SR.toFrs {p : Addr × Obj} (x : SR c L mc (p :: led) frs h) : SR c L mc led (p :: frs) h := by
  have e : (p :: led ++ frs).Perm (led ++ p :: frs) := List.perm_middle.symm
  exact ⟨x.fr, fun q hq => x.nw q (e.mem_iff.mpr hq), ((e.map _).nodup_iff).mp x.nd⟩
theorem SR.toLed {p : Addr × Obj} (x : SR c L mc led (p :: frs) h) : SR c L mc (p :: led) frs h := by
  have e : (p :: led ++ frs).Perm (led ++ p :: frs) := List.perm_middle.symm
  exact ⟨x.fr, fun q hq => x.nw q (e.mem_iff.mp hq), ((e.map _).nodup_iff).mpr x.nd⟩
theorem SR.keyHead {p : Addr × Obj} (x : SR c L mc led (p :: frs) h) : p.1 ∉ led.map (·.1) ∧ p.1 ∉ frs.map (·.1) := by
  have := x.toLed.nd
  rw [List.cons_append, List.map_cons, List.nodup_cons, List.map_append, List.mem_append] at this
  exact ⟨fun h => this.1 (.inl h), fun h => this.1 (.inr h)⟩
/-- made, and held aside -/
theorem SR.aside (x : SR c L mc led frs h) (o : Obj) (hf : o.isFreed = false := by rfl) : SR c L mc led ((h.objs.size, o) :: frs) (h.push o) := (x.alloc o hf).toFrs
/-- what is held aside has changed -/
theorem SR.change {d : Addr} {o o' : Obj} (x : SR c L mc led ((d, o) :: frs) h) (k : ∀ b q, b ≠ d → h.get? b = some q → h'.get? b = some q) (ho : h'.get? d = some o') : SR c L mc led ((d, o') :: frs) h' := by
  have hd := x.nw (d, o) (List.mem_append_right _ List.mem_cons_self)
  refine ⟨⟨?_, fun b q e => k b q (fun e' => by rw [e', hd.2.2] at e; cases e) (x.fr.keep b q e), x.fr.above⟩, fun p hp => ?_, ?_⟩
  · obtain ⟨oL, es, ep, g, r⟩ := x.fr.ns
    exact ⟨oL, es, ep, k L oL (Ne.symm hd.2.1) g, r⟩
  · rcases List.mem_append.mp hp with hp | hp
    · have hne : p.1 ≠ d := fun e => x.keyHead.1 (e ▸ List.mem_map_of_mem (f := (·.1)) hp)
      have := x.nw p (List.mem_append_left _ hp)
      exact ⟨k _ _ hne this.1, this.2⟩
    · rcases List.mem_cons.mp hp with rfl | hp
      · exact ⟨ho, hd.2⟩
      · have hne : p.1 ≠ d := fun e => x.keyHead.2 (e ▸ List.mem_map_of_mem (f := (·.1)) hp)
        have := x.nw p (List.mem_append_right _ (List.mem_cons_of_mem _ hp))
        exact ⟨k _ _ hne this.1, this.2⟩
  · have := x.nd
    rw [List.map_append, List.map_cons] at this ⊢
    exact this
/-- what was held aside is let go, whatever became of it -/
theorem SR.lose {d : Addr} {o : Obj} (x : SR c L mc led ((d, o) :: frs) h) (k : ∀ b q, b ≠ d → h.get? b = some q → h'.get? b = some q) : SR c L mc led frs h' := by
  have hd := x.nw (d, o) (List.mem_append_right _ List.mem_cons_self)
  have x' := x.drop
  refine ⟨⟨?_, fun b q e => k b q (fun e' => by rw [e', hd.2.2] at e; cases e) (x.fr.keep b q e), x.fr.above⟩, fun p hp => ?_, x'.nd⟩
  · obtain ⟨oL, es, ep, g, r⟩ := x.fr.ns
    exact ⟨oL, es, ep, k L oL (Ne.symm hd.2.1) g, r⟩
  · have hne : p.1 ≠ d := fun e => by
      have kk := x.keyHead
      rcases List.mem_append.mp hp with q | q
      · exact kk.1 (e ▸ List.mem_map_of_mem (f := (·.1)) q)
      · exact kk.2 (e ▸ List.mem_map_of_mem (f := (·.1)) q)
    have := x'.nw p hp
    exact ⟨k _ _ hne this.1, this.2⟩
/-- a block's own names, its object held -/
structure Held (c : Cx) (L : Addr) (mc : Str → Option Value) (o : Obj) : Prop where
  ns : ∃ es ep, o.data = .dict es ep ∧ StrKeys es ∧ ∀ name, nsFind es name = mc name
  above : c.base.objs.size ≤ L
theorem SR.held (x : SR c L mc led frs h) : ∃ o, h.get? L = some o ∧ Held c L mc o := by
  obtain ⟨o, es, ep, g, d, r⟩ := x.fr.ns
  exact ⟨o, g, ⟨es, ep, d, r⟩, x.fr.above⟩
/-- into a block of its own names -/
theorem SR.enter {L' : Addr} {mc' : Str → Option Value} {oL : Obj} (x : SR c L mc led frs h) (gL : h.get? L = some oL) (hns : h'.Ns L' mc') (keep : ∀ b o, h.get? b = some o → h'.get? b = some o) (hL' : h.objs.size ≤ L') :
    SR c L' mc' led ((L, oL) :: frs) h' := by
  have lt : ∀ {b : Addr} {o : Obj}, h.get? b = some o → b ≠ L' := fun g e => absurd (Heap.lt_size g) (by rw [e]; exact Nat.not_lt.mpr hL')
  refine ⟨⟨hns, fun b o e => keep b o (x.fr.keep b o e), Nat.le_trans x.fr.above (Nat.le_trans (Nat.le_of_lt (Heap.lt_size gL)) hL')⟩, fun p hp => ?_, ?_⟩
  · have hp' : p ∈ led ++ frs ∨ p = (L, oL) := by
      rcases List.mem_append.mp hp with q | q
      · exact .inl (List.mem_append_left _ q)
      · rcases List.mem_cons.mp q with q | q
        · exact .inr q
        · exact .inl (List.mem_append_right _ q)
    rcases hp' with q | rfl
    · have := x.nw p q
      exact ⟨keep _ _ this.1, lt this.1, this.2.2⟩
    · exact ⟨keep _ _ gL, lt gL, x.baseL⟩
  · have e : (led ++ (L, oL) :: frs).Perm ((L, oL) :: (led ++ frs)) := List.perm_middle
    refine (e.map _).nodup_iff.mpr ?_
    rw [List.map_cons, List.nodup_cons]
    refine ⟨fun hm => ?_, x.nd⟩
    obtain ⟨q, hq, e⟩ := List.mem_map.mp hm
    exact x.notL hq e
/-- .. and out of it -/
theorem SR.leave {L' : Addr} {mc' : Str → Option Value} {oL : Obj} {h2 : Heap} (x : SR c L' mc' led ((L, oL) :: frs) h') (hd : Held c L mc oL) (hs : Heap.SameBut L' h' h2) : SR c L mc led frs h2 := by
  have gL := x.nw (L, oL) (List.mem_append_right _ List.mem_cons_self)
  obtain ⟨⟨es, ep, d, r⟩, ab⟩ := hd
  have x' := x.drop
  refine ⟨⟨⟨oL, es, ep, (hs.2 L gL.2.1).trans gL.1, d, r⟩, fun b o e => (hs.2 b fun q => by rw [q, x.baseL] at e; cases e).trans (x.fr.keep b o e), ab⟩, fun p hp => ?_, x'.nd⟩
  have := x'.nw p hp
  refine ⟨(hs.2 _ this.2.1).trans this.1, fun e => ?_, this.2.2⟩
  have k := x.keyHead
  rcases List.mem_append.mp hp with q | q
  · exact k.1 (e ▸ List.mem_map_of_mem (f := (·.1)) q)
  · exact k.2 (e ▸ List.mem_map_of_mem (f := (·.1)) q)
end
section
variable {S : Sta} {L : Addr} {mc : Str → Option Value} {led frs : Led} {ads : List Addr} {H : Hp} {s : Shared}
inductive SrcAt (S : Sta) (ads : List Addr) (led : Led) (h : Heap) (vs : List V) (x : Value) : Prop where
  | mk (a : Addr) (xs : List Value) (n : Nat) (e : x = .ref a) (g : h.get? a = some { cls := .type "list", data := .seq xs.toArray n }) (r : VRs S.c.hf (Im S.c ads led) ads vs xs) : SrcAt S ads led h vs x
theorem src_at (sr : SR S.c L mc led frs s.heap) (ar : AR S.c ads H led) {v : V} {vs : List V} {x : Value} (hi : itemsV H v = some vs) (hv : VR S.c.hf (Im S.c ads led) ads v x) :
    SrcAt S ads led s.heap vs x := by
  cases v with
  | lst l => cases hi; exact (vr_lst_inv hv).casesOn fun a xs n e p r => ⟨a, xs, n, e, sr.im p, r⟩
  | obj i => exact listO_elim hi fun l hq e => by cases e; exact (list_at sr ar hq hv).casesOn fun a xs n e _ _ g r => ⟨a, xs, n, e, g, r⟩
  | _ => exact nn hi
end
end
-- A18
section
open PySem PySem.W PyProof.Rows PySem.Calls PySem.SeqAt
noncomputable def plainIter : Expr → Bool
  | .Set _ _ _ => false
  | _ => true
theorem folded_of {e : Expr} (h : plainIter e = true) (env : Env) (x : Value) : foldedSetIterable e env x = pure x := by
  cases e <;> first | rfl | cases h
theorem compR_eq {f : V → Hp → Rs V} {v : V} {k i : Nat} {H : Hp} {vs : List V} (hv : itemsV H v = some vs) :
    compR f v (k + 1) i H = match vs[i]? with | some x => (f x H).only fun b H1 => (compR f v k (i + 1) H1).only fun bs H2 => .ok (b :: bs) H2 | none => .ok [] H := by
  show (match itemsV H v with | some vs => (match vs[i]? with | some x => (f x H).only fun b H1 => (compR f v k (i + 1) H1).only fun bs H2 => .ok (b :: bs) H2 | none => .ok [] H) | none => .stuck) = _
  rw [hv]
theorem compR_done {f : V → Hp → Rs V} {v : V} {k i : Nat} {H Hend : Hp} {vs bs : List V} (hv : itemsV H v = some vs) (hi : vs[i]? = none) (h : compR f v (k + 1) i H = .ok bs Hend) : bs = [] ∧ Hend = H := by
  have e : compR f v (k + 1) i H = .ok [] H := (compR_eq hv).trans (by rw [hi])
  cases e.symm.trans h; exact ⟨rfl, rfl⟩
theorem only_elim {α β : Type} {r : Rs α} {f : α → Hp → Rs β} {b : β} {H : Hp} {p : Prop} (h : r.only f = .ok b H) (k : ∀ a H1, r = .ok a H1 → f a H1 = .ok b H → p) : p :=
  match r, h with
  | .ok a H1, h => k a H1 rfl h
theorem compR_item {f : V → Hp → Rs V} {v : V} {k i : Nat} {H Hend : Hp} {vs bs : List V} {x : V} (hv : itemsV H v = some vs) (hi : vs[i]? = some x) (h : compR f v (k + 1) i H = .ok bs Hend) :
    ∃ b H1 bs', f x H = .ok b H1 ∧ compR f v k (i + 1) H1 = .ok bs' Hend ∧ bs = b :: bs' := by
  have h := (compR_eq hv).symm.trans h
  rw [hi] at h
  exact only_elim h fun b H1 h1 h => only_elim h fun bs' H2 h2 h => by cases h; exact ⟨b, H1, bs', h1, h2, rfl⟩
theorem compR_items {f : V → Hp → Rs V} {v : V} {k i : Nat} {H Hend : Hp} {bs : List V} (h : compR f v (k + 1) i H = .ok bs Hend) : ∃ vs, itemsV H v = some vs := by
  replace h : (match itemsV H v with | some vs => (match vs[i]? with | some x => (f x H).only fun b H1 => (compR f v k (i + 1) H1).only fun bs H2 => .ok (b :: bs) H2 | none => .ok [] H) | none => .stuck) = Rs.ok bs Hend := h
  cases hv : itemsV H v with
  | some vs => exact ⟨vs, rfl⟩
  | none => rw [hv] at h; cases h
/-- what stands at a turn of a comprehension -/
inductive CInv (S : Sta) (Lc L : Addr) (oL : Obj) (ax I acc : Addr) (frs : Led) (ads1 : List Addr) (led1 : Led) (f : V → Hp → Rs V) (v : V) (rs : List V) (Hend : Hp) (N : Nat) (k : Nat) (h : Heap) : Prop where
  | mk (i : Nat) (H : Hp) (ads : List Addr) (led : Led) (mc : Str → Option Value) (vs : List V) (bs : List V) (xs : List Value) (n : Nat) (oI : Obj)
    (sr : SR S.c Lc mc led ((acc, { cls := .type "list", data := .seq xs.toArray n }) :: (I, oI) :: (L, oL) :: frs) h) (ar : AR S.c ads H led) (ext : Ext S.c ads1 led1 ads led) (vr : VRs S.c.hf (Im S.c ads led) ads vs xs)
    (hr : compR f v k i H = .ok bs Hend) (hrs : vs ++ bs = rs) (hik : i + k = N + 1) (hli : vs.length = i) (hiter : h.IsListIter I ax i) : CInv S Lc L oL ax I acc frs ads1 led1 f v rs Hend N k h
noncomputable abbrev cEnv (scope : Scope) (Lc : Addr) (env : Env) : Env := { scope := scope, locals := Lc, globals := env.globals, cells := [], qual := env.qual, func := none, code := env.code, frame := env.frame, builtins := env.builtins }
section
variable {S : Sta} {n : Nat} {ck : Ck}
theorem comp_stk {Lc I acc L : Addr} {oI oA oL : Obj} {frs : Led} {stk : List Env} {mc : Str → Option Value} (held : Held S.c L mc oL) (hs : StkOk L frs stk) : StkOk Lc ((I, oI) :: (acc, oA) :: (L, oL) :: frs) stk := by
  intro e' he'
  obtain ⟨q1, L', q2, q3⟩ := hs e' he'
  refine ⟨q1, L', q2, .inr ?_⟩
  rcases q3 with rfl | ⟨o, q3, q4⟩
  · obtain ⟨⟨es, ep, d', _⟩, _⟩ := held
    exact ⟨oL, List.mem_cons_of_mem _ (List.mem_cons_of_mem _ List.mem_cons_self), es, ep, d'⟩
  · exact ⟨o, List.mem_cons_of_mem _ (List.mem_cons_of_mem _ (List.mem_cons_of_mem _ q3)), q4⟩
theorem one_lr {t : Str} {x : V} {y : Value} {mc : Str → Option Value} {ads : List Addr} {led : Led} (vr : VR S.c.hf (Im S.c ads led) ads x y) : LR S.c [t] [some x] (fun z => if z = t then some y else mc z) ads led := fun j z hz => by
  cases j with
  | zero => exact ⟨t, y, rfl, if_pos rfl, Option.some.inj (Option.some.inj hz) ▸ vr⟩
  | succ j => cases hz
theorem comp_loop {elt iter : Expr} {t : Str} {scope : Scope} {tp pos : Pos} {de : Loc → Hp → Rs V} (helt : EvalOK S n ⟨scope, [t], false, false⟩ elt de) (h2 : scope.kind = .function) (ht : scope.names.lookup t = some .local)
    {A : Around} {stk : List Env} {env : Env} {L : Addr} {mc : Str → Option Value} {led0 frs : Led} {ads0 : List Addr} {m : Loc} {H0 : Hp} {s s0 : Shared} {Qp Ep : Value → Shared → Prop} (hh : Here S n ck A stk env L mc led0 frs ads0 m H0 s0)
    {Lc I acc ax : Addr} {oL : Obj} {ads1 : List Addr} {led1 : Led} {v : V} {rs : List V} {Hend : Hp} {N : Nat} (hN : N ≤ big) (held : Held S.c L mc oL) (vr : VR S.c.hf (Im S.c ads1 led1) ads1 v (.ref ax))
    (k1 : ECont S L mc frs ads1 led1 s Qp Ep (.ok (.lst rs) Hend)) {h3 : Heap} {t1 : Nat} (inv0 : CInv S Lc L oL ax I acc frs ads1 led1 (fun x H2 => de [some x] H2) v rs Hend N (N + 1) h3) :
    codeAny S.M A (.compLoop (.ListComp elt [⟨.Name t tp, iter, [], 0⟩] scope pos) 0 (.ref I) (.ref acc) (cEnv scope Lc env))
      (fun r s' => ∃ m, s'.heap.Ns Lc m ∧ ∀ h', Heap.SameBut Lc s'.heap h' → match r with
        | .ok _ => Qp (.ref acc) { s' with heap := h' }
        | .error x => wpAny S.M A (passOn "comprehension.variables-let-go" x (cEnv scope Lc env)) Qp Ep { s' with heap := h' })
      { s with heap := h3, toks := t1 } := by
  refine codeAny_compLoop_tests (fun k s' => ∃ hp tk, s' = { s with heap := hp, toks := tk } ∧ CInv S Lc L oL ax I acc frs ads1 led1 (fun x H2 => de [some x] H2) v rs Hend N k hp) ?_ (N + 1) ⟨h3, t1, rfl, inv0⟩
  rintro kk s' ⟨hp, tk, rfl, i, H, ads, led, mc', vs', bs, xs', nn, oI, srt, art, ext, vrt, hr, hrs, hik, hli, hiter⟩
  cases kk with
  | zero => cases hr
  | succ kk =>
  refine (compR_items hr).elim fun vs2 hv2 => ?_
  obtain ⟨a2, xs2, n2, e2, g2, r2⟩ := src_at (s := { s with heap := hp, toks := tk }) srt art hv2 (ext.vr vr)
  cases e2
  have hl2 : hp.IsList ax xs2.toArray := ⟨_, g2, rfl, _, rfl⟩
  cases hx : vs2[i]? with
  | none =>
    have hq := compR_done hv2 hx hr
    refine wpAny_pyNext_list_end (s := { s with heap := hp, toks := tk }) hh.hd hiter hl2 (List.getElem?_toArray.trans (List.getElem?_eq_none (Nat.le_trans (Nat.le_of_eq r2.length.symm) (List.getElem?_eq_none_iff.mp hx)))) fun h5 he5 => ?_
    have srA := (srt.perm (frs' := (I, oI) :: (acc, { cls := .type "list", data := .seq xs'.toArray nn }) :: (L, oL) :: frs) (List.Perm.swap _ _ _)).lose fun b q hb g => he5 b q hb g
    refine ⟨mc', srA.fr.ns, fun h6 hs6 => ?_⟩
    have srB := (srA.perm (frs' := (L, oL) :: (acc, { cls := .type "list", data := .seq xs'.toArray nn }) :: frs) (List.Perm.swap _ _ _)).leave held hs6
    rw [hq.1, List.append_nil] at hrs
    rw [← hrs, hq.2] at k1
    exact k1.fin (t1 := tk) srB.toLed art.new (ext.trans ext_new) (.lst (n := nn) (.inl ⟨List.mem_cons_self, art.notin srB.keyHead.1⟩) ((ext_new (c := S.c)).vrs vrt))
  | some x =>
    obtain ⟨b, H2, bs', hf, hr', rfl⟩ := compR_item hv2 hx hr
    obtain ⟨y, hy1, hy2⟩ := r2.get hx
    refine wpAny_pyNext_list_item (s := { s with heap := hp, toks := tk }) hiter hl2 (List.getElem?_toArray.trans hy1) fun h5 hit5 hs5 => ?_
    obtain ⟨oI5, gI5, dI5⟩ := hit5
    have srA := (srt.perm (frs' := (I, oI) :: (acc, { cls := .type "list", data := .seq xs'.toArray nn }) :: (L, oL) :: frs) (List.Perm.swap _ _ _)).change (o' := oI5) (fun b q hb g => (hs5.2 b hb).trans g) gI5
    refine wpAny_assign_Name (wpAny_storeName_local (s := { s with heap := h5, toks := tk }) (m := mc') ht srA.fr.ns (fun h6 hn6 hs6 => ?_) (by show (scope.kind == .class || (scope.kind == .module && _)) = false; rw [h2]; rfl))
    refine wpAny_pure ?_
    rw [if_pos rfl]
    refine helt (s := { s with heap := h6, toks := tk + 1 }) ⟨⟨rfl, h2, rfl, hh.env.gl, hh.env.bl⟩, srA.store hn6 hs6, art, one_lr hy2, hh.fra, comp_stk held hh.stk, hh.hd, hh.room, hh.units, fun h => nomatch h⟩ ?_
    rw [hf]
    intro bv h7 t7 ads7 led7 sr7 ar7 ex7 vr7
    have g7 := sr7.nw (acc, { cls := .type "list", data := .seq xs'.toArray nn }) (List.mem_append_right _ (List.mem_cons_of_mem _ List.mem_cons_self))
    refine append_at (s := { s with heap := h7, toks := t7 }) g7.1 (fun h8 hs8 ho8 => ?_) (by have := vrt.length; have := big_le; simp; omega)
    have sr8 := (sr7.perm (frs' := (acc, { cls := .type "list", data := .seq xs'.toArray nn }) :: (I, oI5) :: (L, oL) :: frs) (List.Perm.swap _ _ _)).change (fun b q hb g => (hs8.2 b hb).trans g) ho8
    rw [List.push_toArray] at sr8
    have gI8 := sr8.nw (I, oI5) (List.mem_append_right _ (List.mem_cons_of_mem _ List.mem_cons_self))
    exact ⟨kk, Nat.lt_succ_self _, h8, t7, rfl, i + 1, H2, ads7, led7, _, vs' ++ [b], bs', xs' ++ [bv], _, oI5, sr8, ar7, ext.trans ex7, (ex7.vrs vrt).append (.cons vr7 .nil), hr', by rw [List.append_assoc]; exact hrs, by omega, by rw [List.length_append, List.length_singleton, hli], oI5, gI8.1, dI5⟩
theorem ok_comp {elt iter : Expr} {t : Str} {scope : Scope} {tp pos : Pos} {d de : Loc → Hp → Rs V} (c : S.c.Ok) (hsrc : EvalOK S n ck iter d) (helt : EvalOK S n ⟨scope, [t], false, false⟩ elt de)
    (hit : plainIter iter = true) (h1 : ∀ x ∈ scope.names, x.2 ≠ .free) (h1c : ∀ x ∈ scope.names, x.2 ≠ .cell) (h2 : scope.kind = .function) (h3 : ∀ x ∈ scope.names, x.2 = .local → scope.names.lookup x.1 = some .local) (ht : scope.names.lookup t = some .local) :
    EvalOK S n ck (.ListComp elt [⟨.Name t tp, iter, [], 0⟩] scope pos) (fun m H => (d m H).bind fun v H1 => match itemsV H1 v with
      | some vs => if vs.length ≤ big then (compR (fun x H2 => de [some x] H2) v (vs.length + 1) 0 H1).only fun rs H2 => .ok (.lst rs) H2 else .stuck
      | none => .stuck) := by
  intro A stk env L mc led frs ads m H s Qp Ep hh k
  dsimp only at k
  refine wpAny_ListComp h1 h2 h3 (hsrc hh (k.bind fun v H1 xv hp1 t1 ads1 led1 e sr ar ex vr k1 => ?_)) (folded_of hit env)
  split at k1
  · rename_i vs hvs
    split at k1
    · rename_i hlen
      cases hR : compR (fun x H2 => de [some x] H2) v (vs.length + 1) 0 H1 with
      | ok rs Hend =>
        rw [hR] at k1
        obtain ⟨ax, xs, nx, rfl, gx, rx⟩ := src_at (s := { s with heap := hp1, toks := t1 }) sr ar hvs vr
        refine wpAny_pyIter_list (s := { s with heap := hp1, toks := t1 }) ⟨_, gx, rfl, _, rfl⟩ ?_
        have srI := sr.aside { cls := .type "list_iterator", data := .fields #[.ref ax, .int 0 0] }
        refine newList_N srI.fr srI.nw (fun hb F2 N2 => ?_) (by simp)
        have g2I : hb.get? hp1.objs.size = some { cls := .type "list_iterator", data := .fields #[.ref ax, .int 0 0] } := (N2 _ (List.mem_cons_of_mem _ (List.mem_append_right _ List.mem_cons_self))).1
        have sr2 := (srI.of_news F2 N2 fun p hp => Heap.lt_size (srI.nw p hp).1).toFrs
        obtain ⟨oL, gL, held⟩ := sr2.held
        refine wpAny_newFunctionEnv h1c (fun x hx => nomatch hx) (fun h3' hns hsb => ?_) h2
        have keep3 : ∀ b o, hb.get? b = some o → h3'.get? b = some o := fun b o g => (hsb.2 b (Nat.ne_of_lt (Heap.lt_size g))).trans (Heap.get?_push_of_some _ g)
        have sr4 := (sr2.enter gL hns keep3 (Nat.le_refl _)).perm (frs' := ((hp1.push { cls := .type "list_iterator", data := .fields #[.ref ax, .int 0 0] }).objs.size, { cls := .type "list", data := .seq [].toArray }) :: (hp1.objs.size, { cls := .type "list_iterator", data := .fields #[.ref ax, .int 0 0] }) :: (L, oL) :: frs)
          ((List.Perm.swap _ _ _).trans (List.Perm.cons _ (List.Perm.swap _ _ _)))
        have loop := comp_loop (iter := iter) (tp := tp) (pos := pos) (s := { s with heap := hp1, toks := t1 }) (t1 := t1) helt h2 ht hh hlen held vr k1 ⟨0, H1, ads1, led1, _, [], rs, [], 0, _, sr4, ar, .refl, .nil, hR, rfl, Nat.zero_add _, rfl, _, keep3 _ _ g2I, rfl, rfl⟩
        exact codeAny_compStart_list loop (wpAny_pyIter_listiter (i := 0) ⟨_, keep3 _ _ g2I, rfl, rfl⟩ loop)
      | exc p H2 => rw [hR] at k1; exact k1.elim
      | stuck => rw [hR] at k1; exact k1.elim
    · exact k1.elim
  · exact k1.elim
end
end
-- A19
section
open PySem PySem.W PyProof.Rows PySem.Calls PySem.SeqAt
section
variable {hf : Str → Int} {P : Addr → Obj → Prop} {ads : List Addr}
theorem isStr_st (f k : List Nat) (t : Tok) : (Value.str (St k) t).isStr (St f) = decide (k = f) := by
  have : (Value.str (St k) t).isStr (St f) = (St k == St f) := rfl
  rw [this]
  by_cases h : k = f
  · subst h; simp
  · simp [st_ne h, h]
theorem VKs.put {f : List Nat} {t : Tok} {v : V} {x : Value} (hv : VR hf P ads v x) : ∀ {kvs : List (List Nat × V)} {es : List DictEntry}, VKs hf P ads kvs es → VKs hf P ads (kvSet kvs f v) (putL (St f) (hf (St f)) (.str (St f) t) x es)
  | _, _, .nil => .cons hv .nil
  | _, _, .cons (k := k) (t := tk) a r => by
    rw [kvSet, putL]
    dsimp only
    rw [isStr_st]
    by_cases h : k = f
    · subst h
      rw [if_pos rfl, if_pos (by simp)]
      exact .cons hv r
    · rw [if_neg h, if_neg (by simpa using h)]
      exact .cons a (VKs.put hv r)
theorem putL_len (name : Str) (hsh : Int) (key v : Value) : ∀ es : List DictEntry, (putL name hsh key v es).length ≤ es.length + 1
  | [] => by simp [putL]
  | e :: r => by
    rw [putL]
    split
    · simp
    · have := putL_len name hsh key v r
      simp; omega
theorem kvSet_zip {f : List Nat} {v : V} : ∀ {kvs : List (List Nat × V)}, (kvs.map (·.1)).Nodup → f ∈ kvs.map (·.1) → kvSet kvs f v = (kvs.map (·.1)).zip (kvs.map fun p => if p.1 = f then v else p.2)
  | [], _, h => by cases h
  | p :: r, hn, h => by
    rw [List.map_cons, List.nodup_cons] at hn
    rw [kvSet]
    by_cases hp : p.1 = f
    · rw [if_pos hp]
      simp only [List.map_cons, List.zip_cons_cons, if_pos hp]
      rw [← hp]
      congr 1
      have : ∀ q ∈ r, q.1 ≠ f := fun q hq e => hn.1 (by rw [hp, ← e]; exact List.mem_map_of_mem (f := (·.1)) hq)
      clear h hn
      induction r with
      | nil => rfl
      | cons q r ih =>
        simp only [List.map_cons, List.zip_cons_cons]
        rw [if_neg (by rw [hp]; exact this q List.mem_cons_self), ← ih fun q hq => this q (List.mem_cons_of_mem _ hq)]
    · rw [if_neg hp]
      simp only [List.map_cons, List.zip_cons_cons, if_neg hp]
      rw [List.map_cons] at h
      rcases List.mem_cons.mp h with e | h
      · exact absurd e.symm hp
      · rw [kvSet_zip hn.2 h]
theorem kvGet_mem {kvs : List (List Nat × V)} {f : List Nat} (h : (kvGet kvs f).isSome = true) : f ∈ kvs.map (·.1) := by
  unfold kvGet at h
  rw [Option.isSome_map, List.find?_isSome] at h
  obtain ⟨p, hp, e⟩ := h
  have : p.1 = f := by simpa using e
  exact this ▸ List.mem_map_of_mem (f := (·.1)) hp
end
section
variable {S : Sta} {P : Addr → Obj → Prop} {ads : List Addr}
theorem vks_pairs : ∀ {kvs : List (List Nat × V)} {es : List DictEntry}, VKs S.c.hf P ads kvs es → Pairs (PySem.strKind S.c.prog S.c.w) es (((kvs.map (·.1)).map St).zip (es.map (·.val)))
  | _, _, .nil => .nil
  | _, _, .cons (k := k) (t := t) a r => .cons (strKind_is S.c.prog S.c.w (St k) t) rfl (vks_pairs r)
theorem vks_vals {f : List Nat} {v : V} {x : Value} (hv : VR S.c.hf P ads v x) : ∀ {kvs : List (List Nat × V)} {es : List DictEntry}, VKs S.c.hf P ads kvs es →
    ∃ xs, ((((kvs.map (·.1)).map St).zip (es.map (·.val))).map fun kv => if kv.1 = St f then (kv.1, x) else kv) = ((kvs.map (·.1)).map St).zip xs ∧ VRs S.c.hf P ads (kvs.map fun p => if p.1 = f then v else p.2) xs
  | _, _, .nil => ⟨[], rfl, .nil⟩
  | _, _, .cons (k := k) (t := t) (v := v') (x := x') a r => by
    obtain ⟨xs, e, q⟩ := vks_vals hv r
    by_cases h : k = f
    · refine ⟨x :: xs, ?_, ?_⟩
      · simp only [List.map_cons, List.zip_cons_cons, if_pos (congrArg St h)]
        rw [e]
      · simp only [List.map_cons, if_pos h]
        exact .cons hv q
    · refine ⟨x' :: xs, ?_, ?_⟩
      · simp only [List.map_cons, List.zip_cons_cons, if_neg (st_ne h)]
        rw [e]
      · simp only [List.map_cons, if_neg h]
        exact .cons a q
theorem vks_dict {h : Heap} {a : Addr} {n : Nat} {kvs : List (List Nat × V)} {es : List DictEntry} (ho : h.get? a = some (dictOf es n)) (r : VKs S.c.hf P ads kvs es) (hn : (kvs.map (·.1)).Nodup) :
    h.DictOf (PySem.strKind S.c.prog S.c.w) a (((kvs.map (·.1)).map St).zip (es.map (·.val))) := by
  refine ⟨_, es.toArray, n, ho, ⟨rfl, rfl, rfl⟩, rfl, fun e he => r.keysOf e (by simpa using he), vks_pairs r, ?_⟩
  rw [List.map_fst_zip (by simp [r.length])]
  exact List.pairwise_map.mpr (hn.imp fun h => st_ne h)
end
section
variable {S : Sta} {A : Around} {L : Addr} {mc : Str → Option Value} {frs : Led} {ads : List Addr} {led : Led} {s : Shared} {H : Hp} {Q : Unit → Shared → Prop} {Ep : Value → Shared → Prop}
/-- what a store leaves -/
noncomputable def UCont (S : Sta) (L : Addr) (mc : Str → Option Value) (frs : Led) (ads : List Addr) (led : Led) (s : Shared) (Q : Unit → Shared → Prop) : Option Hp → Prop
  | some H' => ∀ h' tk' led', SR S.c L mc led' frs h' → AR S.c ads H' led' → Ext S.c ads led ads led' → Q () { s with heap := h', toks := tk' }
  | none => False
theorem prim_setattr {o v : V} {f : List Nat} {x y : Value} (c : S.c.Ok) (ow : Own S) (sr : SR S.c L mc led frs s.heap) (ar : AR S.c ads H led) (ho : VR S.c.hf (Im S.c ads led) ads o x) (hv : VR S.c.hf (Im S.c ads led) ads v y)
    (k : UCont S L mc frs ads led s Q (setAttrV S.sg H o f v)) : wpAny S.M A (setAttr x (St f) y) Q Ep s := by
  cases hs : setAttrV S.sg H o f v with
  | none => rw [hs] at k; exact k.elim
  | some H' =>
    rw [hs] at k
    unfold setAttrV at hs
    split at hs
    · split at hs
      · rename_i C i hown
        split at hs
        · rename_i kvs hi
          split at hs
          · rename_i hlen
            cases hs
            obtain ⟨o1, o2, attr, o3, o4, o5, o6, o7⟩ := ow C f hown
            cases ho with
            | @inst _ _ dx _ px hx =>
            obtain ⟨dx, ob, e, h4, h5, h3, r1⟩ := obj_at sr ar hi (.obj hx)
            cases e
            cases r1 with
            | @dict _ es0 n0 r1 =>
            have gl : (getL (St f) es0).isSome = true := by
              have := r1.getL f
              cases hk : kvGet kvs f with
              | some v' => rw [hk] at this; obtain ⟨_, e, _⟩ := this; rw [e]; rfl
              | none => rw [hk] at this; simp only at this; rw [this]; rfl
            have hd : dx ∈ ads := List.mem_of_getElem? h4
            have vk : VKs S.c.hf (Im S.c ads led) ads (kvSet kvs f v) _ := r1.put (f := f) (t := s.toks + 1) hv
            refine set_dict sr.fr c.kin sr.nw (inst_at (sr.im px) h3) rfl o5 o6 o7 o2 gl rfl (sr.upd _ h5) ?_ fun h' F' N' => k _ _ _ (sr.updated F' N') (ar.upd hi h4 h5 (.dict vk)) (ext_upd hd)
            have := putL_len (St f) (PyData.keyHash S.c.w.params (St f)) (.str (St f) (s.toks + 1)) y
            have l2 := r1.length
            exact Nat.le_trans (this _) (by omega)
          · cases hs
        · cases hs
      · cases hs
    · cases hs
theorem vrs_set {hf : Str → Int} {P : Addr → Obj → Prop} {v : V} {y : Value} (hv : VR hf P ads v y) : ∀ {vs : List V} {xs : List Value}, VRs hf P ads vs xs → ∀ {i : Nat}, VRs hf P ads (vs.set i v) (xs.set i y)
  | _, _, .nil, _ => .nil
  | _, _, .cons _ r, 0 => .cons hv r
  | _, _, .cons a r, _ + 1 => .cons a (vrs_set hv r)
theorem set_list_at {prog : Program} {w : World} {l : Addr} {xs : List Value} {n : Nat} {k : Int} {t : Tok} {v : Value} {E : Value → Shared → Prop} (ho : s.heap.get? l = some { cls := .type "list", data := .seq xs.toArray n })
    (h0 : 0 ≤ k) (hfit : k < 2 ^ 63) (hn : k < (xs.length : Int))
    (hQ : ∀ f : Obj → Obj, f { cls := .type "list", data := .seq xs.toArray n } = { cls := .type "list", data := .seq (xs.set k.toNat v).toArray n } → Q () { s with heap := s.heap.update l f }) :
    wpAny (model prog w) A (setItem (.ref l) (.int k t) v) Q E s := by
  have hl : s.heap.IsList l xs.toArray := ⟨_, ho, rfl, _, rfl⟩
  unfold setItem
  refine wpAny_holding ?_
  refine wpAny_bind (wpAny_sequenceKey hl.typeIs (by decide) ?_)
  refine wpAny_bind (wpAny_callSpecial?_slot (name := Str.ofString "__setitem__") hl.typeIs slot_list_setitem
    (wpAny_call_entry slot_list_setitem hl.typeIs entry_list_setitem ?_ (args_list_setitem _ _ _)))
  show wpAny _ _ (Builtin.List.listSubscript? (.int k t) >>= _) _ _ s
  refine wpAny_bind (wpAny_listSubscript_int (fitsIndex_of h0 hfit) ?_)
  obtain ⟨j, rfl⟩ := Int.eq_ofNat_of_zero_le h0
  have hx' : xs.toArray[j]? = some xs[j] := by simp
  show wpAny _ _ ((seqItemAt l j >>= fun r => pure (r.map (j, ·))) >>= _) _ _ s
  refine wpAny_bind (wpAny_bind (wpAny_seqItemAt ho rfl (wpAny_pure ?_)))
  rw [hx']
  show wpAny _ _ (setSeqItemAt l j v >>= _) _ _ s
  refine wpAny_bind (wpAny_setSeqItemAt ho rfl ?_)
  have fin := hQ (Obj.mapSeq (·.setIfInBounds j v)) (by simp [Obj.mapSeq])
  first
    | exact wpAny_bind (wpAny_pure (wpAny_pure ⟨.none, rfl, wpAny_pure fin⟩))
    | exact wpAny_pure ⟨.none, rfl, wpAny_pure fin⟩
theorem prim_setidx {o kk v : V} {x y z : Value} (sr : SR S.c L mc led frs s.heap) (ar : AR S.c ads H led) (ho : VR S.c.hf (Im S.c ads led) ads o x) (hk : VR S.c.hf (Im S.c ads led) ads kk z) (hv : VR S.c.hf (Im S.c ads led) ads v y)
    (k : UCont S L mc frs ads led s Q (setIdxV H o kk v)) : wpAny S.M A (setItem x z y) Q Ep s := by
  cases hs : setIdxV H o kk v with
  | none => rw [hs] at k; exact k.elim
  | some H' =>
    rw [hs] at k
    unfold setIdxV at hs
    split at hs
    · split at hs
      · rename_i i f _ kvs hi
        split at hs
        · rename_i hc
          cases hs
          obtain ⟨dx, ob, rfl, h4, h5, h3, r1⟩ := obj_at sr ar hi ho
          cases r1 with
          | @dict _ es0 n0 r1 =>
          cases hk
          have hd : dx ∈ ads := List.mem_of_getElem? h4
          refine wpAny_setItem_pairs (knd := PySem.strKind S.c.prog S.c.w) (strKind_is S.c.prog S.c.w (St f) _) (vks_dict h3 r1 hc.2.1) (fun h' hd' hs' => ?_) ?_
          · have hany : (((kvs.map (·.1)).map St).zip (es0.map (·.val))).any (fun kv => kv.1 = St f) = true := by
              obtain ⟨j, hj⟩ := List.mem_iff_getElem?.mp (kvGet_mem hc.1)
              have l2 := r1.length
              rw [List.any_eq_true]
              have hlt := (List.getElem?_eq_some_iff.mp hj).1
              rw [List.length_map] at hlt
              have hx := List.getElem?_eq_getElem (l := es0.map (·.val)) (i := j) (h := by rw [List.length_map, l2]; exact hlt)
              refine ⟨(St f, _), List.mem_of_getElem? (i := j) (List.getElem?_zip_eq_some.mpr ⟨?_, hx⟩), by simp⟩
              rw [List.getElem?_map, hj]; rfl
            unfold stored at hd'
            rw [if_pos hany] at hd'
            obtain ⟨xs', e1, q1⟩ := vks_vals (f := f) hv r1
            rw [e1] at hd'
            obtain ⟨es', m', g', vk⟩ := dict_made hd' q1
            rw [← kvSet_zip hc.2.1 (kvGet_mem hc.1)] at vk
            exact k _ _ _ (sr.same h5 hs' g') (ar.upd hi h4 h5 (.dict vk)) (ext_upd hd)
          · have l2 := r1.length
            have := big_le
            rw [List.length_zip, List.length_map, List.length_map, List.length_map, l2]
            omega
        · cases hs
      · cases hs
    · split at hs
      · rename_i i j _ vs hi
        split at hs
        · rename_i hc
          cases hs
          obtain ⟨a, xs, n1, rfl, h4, h5, h3, r1⟩ := list_at sr ar hi ho
          cases hk
          have hl := r1.length
          have hb := big_lt
          have hd : a ∈ ads := List.mem_of_getElem? h4
          refine set_list_at h3 hc.1 (by omega) (by omega) fun f hf1 => ?_
          have u := sr.update h5 f (by rw [hf1]; rfl)
          rw [hf1] at u
          refine k _ _ _ u (ar.upd hi h4 h5 (.list ?_)) (ext_upd hd)
          exact vrs_set hv r1
        · cases hs
      · cases hs
    · cases hs
end
end
-- A20
section
open PySem PySem.W PyProof.Rows PySem.Calls PySem.SeqAt
noncomputable def notComp : Expr → Bool
  | .ListComp _ _ _ _ => false
  | .SetComp _ _ _ _ => false
  | .DictComp _ _ _ _ _ => false
  | _ => true
theorem swaps_of {e : Expr} (h : notComp e = true) (t : Option Expr) (l : Nat) (env : Env) : swapsWith e t l env = pure false := by
  cases e <;> first | rfl | cases h
theorem sole_of {e : Expr} (h : notComp e = true) (t : Expr) (l : Nat) (env : Env) : swapsWithSole [t] e l env = pure false := swaps_of h (some t) l env
theorem LR.set {c : Cx} {nm : List Str} {m : Loc} {mc : Str → Option Value} {ads ads1 : List Addr} {led led1 : Led} {i : Nat} {x : Str} {v : V} {y : Value} (nd : nm.Nodup) (hx : nm[i]? = some x) (h : LR c nm m mc ads led) (e : Ext c ads led ads1 led1)
    (vr : VR c.hf (Im c ads1 led1) ads1 v y) : LR c nm (setL m i v) (fun z => if z = x then some y else mc z) ads1 led1 := by
  intro j w hj
  unfold setL at hj
  by_cases hij : i = j
  · subst hij
    rw [List.getElem?_set] at hj
    simp only [if_pos] at hj
    split at hj
    · cases hj; exact ⟨x, y, hx, by simp, vr⟩
    · cases hj
  · rw [List.getElem?_set_ne hij] at hj
    obtain ⟨x', y', h1, h2, h3⟩ := h j w hj
    refine ⟨x', y', h1, ?_, e.vr h3⟩
    dsimp only
    rw [if_neg]
    · exact h2
    · intro e'
      subst e'
      have l1 := List.getElem?_eq_some_iff.mp hx
      have l2 := List.getElem?_eq_some_iff.mp h1
      exact hij ((List.getElem_inj (h₀ := l1.1) (h₁ := l2.1) nd).mp (l1.2.trans l2.2.symm))
theorem LR.ext {c : Cx} {nm : List Str} {m : Loc} {mc : Str → Option Value} {ads ads1 : List Addr} {led led1 : Led} (h : LR c nm m mc ads led) (e : Ext c ads led ads1 led1) : LR c nm m mc ads1 led1 := fun i v hv => by
  obtain ⟨x, y, h1, h2, h3⟩ := h i v hv
  exact ⟨x, y, h1, h2, e.vr h3⟩
theorem store_go {S : Sta} {M : Model} {A : Around} {E : Value → Shared → Prop} {s : Shared} {env : Env} {L : Addr} {sc : Scope} {mc : Str → Option Value} {led frs : Led} {x : Str} {y : Value} {Q : Unit → Shared → Prop} (eo : EnvOk env L sc) (hk : sc.names.lookup x = some .local)
    (sr : SR S.c L mc led frs s.heap) (q : ∀ h', SR S.c L (fun z => if z = x then some y else mc z) led frs h' → Q () { s with heap := h', toks := s.toks + 1 }) : wpAny M A (storeName env x y) Q E s := by
  have hek : env.kindOf x = some .local := by show env.scope.names.lookup x = _; rw [eo.sc]; exact hk
  refine wpAny_storeName_local (m := mc) hek (by rw [eo.loc]; exact sr.fr.ns) (fun h' hn hs => ?_) (by rw [eo.sc, eo.kind]; rfl)
  rw [eo.loc] at hn hs
  exact q h' (sr.store hn hs)
section
variable {S : Sta} {n : Nat} {ck : Ck} {A : Around} {stk : List Env} {env : Env} {L : Addr} {mc : Str → Option Value} {led frs : Led} {ads : List Addr} {m : Loc} {H : Hp} {s : Shared} {Qf : Flow → Shared → Prop} {Ep : Value → Shared → Prop}
/-- another block's names -/
theorem Here.to (h : Here S n ck A stk env L mc led frs ads m H s) {h' : Heap} {tk' : Nat} {ads' : List Addr} {led' : Led} {H' : Hp} {m' : Loc} {mc' : Str → Option Value} (sr : SR S.c L mc' led' frs h') (ar : AR S.c ads' H' led') (lr : LR S.c ck.nm m' mc' ads' led') :
    Here S n ck A stk env L mc' led' frs ads' m' H' { s with heap := h', toks := tk' } := ⟨h.env, sr, ar, lr, h.fra, h.stk, h.hd, h.room, h.units, h.tp⟩
theorem HereS.to (h : HereS S n ck A stk env L mc led frs ads m H s) {h' : Heap} {tk' : Nat} {ads' : List Addr} {led' : Led} {H' : Hp} {m' : Loc} {mc' : Str → Option Value} (sr : SR S.c L mc' led' frs h') (ar : AR S.c ads' H' led') (lr : LR S.c ck.nm m' mc' ads' led') :
    HereS S n ck A stk env L mc' led' frs ads' m' H' { s with heap := h', toks := tk' } := ⟨h.here.to sr ar lr, h.fr, h.tops⟩
theorem HereS.step (h : HereS S n ck A stk env L mc led frs ads m H s) {h' : Heap} {tk' : Nat} {ads' : List Addr} {led' : Led} {H' : Hp} (sr : SR S.c L mc led' frs h') (ar : AR S.c ads' H' led') (e : Ext S.c ads led ads' led') :
    HereS S n ck A stk env L mc led' frs ads' m H' { s with heap := h', toks := tk' } := ⟨h.here.step sr ar e, h.fr, h.tops⟩
theorem ZCont.step {z : Z} {ads1 : List Addr} {led1 : Led} {h1 : Heap} {t1 : Nat} (k : ZCont S ck L frs ads led s Qf Ep z) (e : Ext S.c ads led ads1 led1) : ZCont S ck L frs ads1 led1 { s with heap := h1, toks := t1 } Qf Ep z := by
  cases z with
  | next m' H' => exact fun h' tk' ads' led' mc' sr ar ex lr => k h' tk' ads' led' mc' sr ar (e.trans ex) lr
  | ret v H' => exact fun x h' tk' ads' led' mc' frs' hf sr ar ex vr => k x h' tk' ads' led' mc' frs' hf sr ar (e.trans ex) vr
  | exc p H' => exact fun x h' tk' ads' led' frs' mc' u sr ar ex fl => k x h' tk' ads' led' frs' mc' u sr ar (e.trans ex) fl
  | stuck => exact k
/-- an expression, then the rest of a statement -/
theorem ZCont.ebind {r : Rs V} {f : V → Hp → Z} {Q' : Value → Shared → Prop} (k : ZCont S ck L frs ads led s Qf Ep (r.q f))
    (g : ∀ v H1 x h1 t1 ads1 led1, r = .ok v H1 → SR S.c L mc led1 frs h1 → AR S.c ads1 H1 led1 → Ext S.c ads led ads1 led1 → VR S.c.hf (Im S.c ads1 led1) ads1 v x →
      ZCont S ck L frs ads1 led1 { s with heap := h1, toks := t1 } Qf Ep (f v H1) → Q' x { s with heap := h1, toks := t1 }) : ECont S L mc frs ads led s Q' Ep r := by
  cases r with
  | ok v H1 => exact fun x h' tk' ads' led' sr ar ex vr => g v H1 x h' tk' ads' led' rfl sr ar ex vr (ZCont.step (z := f v H1) k ex)
  | exc p H' => exact fun e h' tk' ads' led' frs' u sr ar ex fl => k e h' tk' ads' led' frs' mc u sr ar ex fl.up
  | stuck => exact k
/-- a test, then one of two ways -/
theorem ZCont.tbind {r : Rs V} {f : Bool → Hp → Z} {Qb' : Bool → Shared → Prop} (k : ZCont S ck L frs ads led s Qf Ep (r.q fun v H1 => match truth v with
      | some true => f true H1
      | some false => f false H1
      | none => .stuck))
    (g : ∀ b H1 h1 t1 ads1 led1, SR S.c L mc led1 frs h1 → AR S.c ads1 H1 led1 → Ext S.c ads led ads1 led1 → ZCont S ck L frs ads1 led1 { s with heap := h1, toks := t1 } Qf Ep (f b H1) → Qb' b { s with heap := h1, toks := t1 }) : BCont S L mc frs ads led s Qb' Ep r := by
  cases r with
  | ok v H1 =>
    dsimp only [Rs.q] at k
    cases hb : truth v with
    | none => rw [hb] at k; exact k.elim
    | some b =>
      rw [hb] at k
      refine .of_ok hb fun h' tk' ads' led' sr ar ex => g b H1 h' tk' ads' led' sr ar ex ?_
      cases b with
      | true => exact ZCont.step (z := f true H1) k ex
      | false => exact ZCont.step (z := f false H1) k ex
  | exc p H' => exact fun e h' tk' ads' led' frs' u sr ar ex fl => k e h' tk' ads' led' frs' mc u sr ar ex fl.up
  | stuck => exact k
/-- a statement, then the next ones -/
theorem ZCont.zbind {z : Z} {f : Loc → Hp → Z} {Q' : Flow → Shared → Prop} (k : ZCont S ck L frs ads led s Qf Ep (z.then f)) (hq : ∀ x s', Qf (.ret x) s' → Q' (.ret x) s')
    (g : ∀ m1 H1 h1 t1 ads1 led1 mc1, z = .next m1 H1 → SR S.c L mc1 led1 frs h1 → AR S.c ads1 H1 led1 → Ext S.c ads led ads1 led1 → LR S.c ck.nm m1 mc1 ads1 led1 →
      ZCont S ck L frs ads1 led1 { s with heap := h1, toks := t1 } Qf Ep (f m1 H1) → Q' .next { s with heap := h1, toks := t1 }) : ZCont S ck L frs ads led s Q' Ep z := by
  cases z with
  | next m' H' => exact fun h' tk' ads' led' mc' sr ar ex lr => g m' H' h' tk' ads' led' mc' rfl sr ar ex lr (ZCont.step (z := f m' H') k ex)
  | ret v H' => exact fun x h' tk' ads' led' mc' frs' hf sr ar ex vr => hq _ _ (k x h' tk' ads' led' mc' frs' hf sr ar ex vr)
  | exc p H' => exact k
  | stuck => exact k
end
section
variable {S : Sta} {n : Nat} {ck : Ck}
theorem execs_nil : ExecsOK S n ck [] (fun m H => .next m H) := by
  intro A stk env L mc led frs ads m H s Qf Ep hh k
  exact wpAny_execs_nil (k s.heap s.toks ads led mc hh.here.sr hh.here.ar .refl hh.here.lr)
theorem execs_cons {x : Stmt} {xs : List Stmt} {d ds : Loc → Hp → Z} (hx : ExecOK S n ck x d) (hxs : ExecsOK S n ck xs ds) : ExecsOK S n ck (x :: xs) (fun m H => (d m H).then ds) := by
  intro A stk env L mc led frs ads m H s Qf Ep hh k
  dsimp only at k
  refine wpAny_execs_cons (hx hh (k.zbind (fun x s' q => q) fun m1 H1 h1 t1 ads1 led1 mc1 e sr ar ex lr k1 => hxs (hh.to sr ar lr) k1))
theorem x_asg {i : Nat} {x : Str} {value : Expr} {p pos : Pos} {d : Loc → Hp → Rs V} (nd : ck.nm.Nodup) (hx : ck.nm[i]? = some x) (hk : ck.sc.names.lookup x = some .local) (hc : notComp value = true) (h : EvalOK S n ck value d) :
    ExecOK S n ck (.Assign [.Name x p] value pos) (fun m H => (d m H).q fun v H1 => .next (setL m i v) H1) := by
  intro A stk env L mc led frs ads m H s Qf Ep hh k
  dsimp only at k
  refine wpAny_Assign_Name (h hh.here (k.ebind fun v H1 y h1 t1 ads1 led1 e sr ar ex vr k1 => ?_)) (swaps_of hc _ _ _)
  exact store_go (s := { s with heap := h1, toks := t1 }) hh.here.env hk sr fun h' sr' => k1 h' _ ads1 led1 _ sr' ar .refl ((hh.here.lr.set nd hx ex vr))
theorem x_augloc {i : Nat} {x : Str} {value : Expr} {p pos : Pos} {d : Loc → Hp → Rs V} (nd : ck.nm.Nodup) (hx : ck.nm[i]? = some x) (hk : ck.sc.names.lookup x = some .local) (h : EvalOK S n ck value d) :
    ExecOK S n ck (.AugAssign (.Name x p) .Add value pos) (fun m H => (Rs.of (m[i]?.join) H).q fun w H1 => (d m H1).q fun y H2 => (Rs.of (iaddV w y) H2).q fun v H3 => .next (setL m i v) H3) := by
  intro A stk env L mc led frs ads m H s Qf Ep hh k
  dsimp only at k
  cases hm : m[i]?.join with
  | none => simp only [hm] at k; exact k.elim
  | some w =>
    simp only [hm, Rs.q] at k
    have hm' : m[i]? = some (some w) := by
      cases q : m[i]? with
      | none => rw [q] at hm; cases hm
      | some o => rw [q] at hm; exact congrArg some hm
    obtain ⟨x', wv, h1, h2, h3⟩ := hh.here.lr i w hm'
    rw [hx] at h1; cases h1
    have hek : env.kindOf x = some .local := by show env.scope.names.lookup x = _; rw [hh.here.env.sc]; exact hk
    refine wpAny_AugAssign_Name (wpAny_loadName_local (by rw [hh.here.env.sc]; exact hh.here.env.kind) hek (by rw [hh.here.env.loc]; exact hh.here.sr.fr.ns) h2 ?_)
    refine h hh.here (ZCont.ebind (f := fun y H2 => (Rs.of (iaddV w y) H2).q fun v H3 => .next (setL m i v) H3) k fun v H1 y h1 t1 ads1 led1 e sr ar ex vr k1 => ?_)
    refine prim_iadd (s := { s with heap := h1, toks := t1 }) sr ar (ex.vr h3) vr (ZCont.ebind k1 fun v2 H2 y2 h2 t2 ads2 led2 e2 sr2 ar2 ex2 vr2 k2 => ?_)
    exact store_go (s := { s with heap := h2, toks := t2 }) hh.here.env hk sr2 fun h' sr' => k2 h' _ ads2 led2 _ sr' ar2 .refl ((hh.here.lr.set nd hx (ex.trans ex2) vr2))
theorem x_ret {value : Expr} {pos : Pos} {d : Loc → Hp → Rs V} (h : EvalOK S n ck value d) : ExecOK S n ck (.Return (some value) pos) (fun m H => (d m H).q fun v H1 => .ret v H1) := by
  intro A stk env L mc led frs ads m H s Qf Ep hh k
  dsimp only at k
  exact wpAny_Return_some (h hh.here (k.ebind fun v H1 y h1 t1 ads1 led1 e sr ar ex vr k1 => k1 y h1 t1 ads1 led1 mc frs (.inl rfl) sr ar .refl vr))
theorem x_expr {value : Expr} {pos : Pos} {d : Loc → Hp → Rs V} (hc : notComp value = true) (h : EvalOK S n ck value d) : ExecOK S n ck (.Expr value pos) (fun m H => (d m H).q fun _ H1 => .next m H1) := by
  intro A stk env L mc led frs ads m H s Qf Ep hh k
  dsimp only at k
  refine wpAny_Expr_any (h hh.here (k.ebind fun v H1 y h1 t1 ads1 led1 e sr ar ex vr k1 => k1 h1 t1 ads1 led1 mc sr ar .refl (hh.here.lr.ext ex))) ?_ (swaps_of hc _ _ _)
  unfold interactive
  rw [hh.here.env.sc, hh.here.env.kind]; rfl
theorem x_ife {test : Expr} {body orelse : List Stmt} {pos : Pos} {d : Loc → Hp → Rs V} {da db : Loc → Hp → Z} (h : TestOK S n ck test d) (ha : ExecsOK S n ck body da) (hb : ExecsOK S n ck orelse db) :
    ExecOK S n ck (.If test body orelse pos) (fun m H => (d m H).q fun v H1 => match truth v with
      | some true => da m H1
      | some false => db m H1
      | none => .stuck) := by
  intro A stk env L mc led frs ads m H s Qf Ep hh k
  dsimp only at k
  refine wpAny_If (h hh.here (k.tbind (f := fun b H1 => if b then da m H1 else db m H1) fun b H1 h1 t1 ads1 led1 sr ar ex k1 => ?_))
  cases b with
  | true => exact ha (hh.step sr ar ex) k1
  | false => exact hb (hh.step sr ar ex) k1
theorem x_setattr {o value : Expr} {f : List Nat} {p pos : Pos} {d dof : Loc → Hp → Rs V} (c : S.c.Ok) (ow : Own S) (hc : notComp value = true) (h : EvalOK S n ck value d) (ho : EvalOK S n ck o dof) :
    ExecOK S n ck (.Assign [.Attribute o (St f) p] value pos) (fun m H => (d m H).q fun v H1 => (dof m H1).q fun ov H2 => match setAttrV S.sg H2 ov f v with
      | some H3 => .next m H3
      | none => .stuck) := by
  intro A stk env L mc led frs ads m H s Qf Ep hh k
  dsimp only at k
  refine wpAny_Assign_stores (h hh.here (k.ebind fun v H1 y h1 t1 ads1 led1 e sr ar ex vr k1 => ?_)) (sole_of hc _ _ _) rfl
  show wpAny S.M A (assign (.Attribute o (St f) p) env y) _ _ _
  rw [arm_assign_Attribute]
  refine wpAny_bind (wpAny_holding (ho (hh.here.step sr ar ex) (k1.ebind fun w H2 z h2 t2 ads2 led2 e2 sr2 ar2 ex2 vr2 k2 => wpAny_bind (wpAny_standAt (wpAny_bind (wpAny_holding ?_))))))
  refine prim_setattr (s := { s with heap := h2, toks := t2 }) c ow sr2 ar2 vr2 (ex2.vr vr) ?_
  cases hs : setAttrV S.sg H2 w f v with
  | none => rw [hs] at k2; exact k2.elim
  | some H3 =>
    rw [hs] at k2
    intro h3 t3 led3 sr3 ar3 ex3
    exact wpAny_release (k2 h3 t3 ads2 led3 mc sr3 ar3 ex3 (hh.here.lr.ext (ex.trans (ex2.trans ex3))))
theorem x_augattr {o value : Expr} {f : List Nat} {p pos : Pos} {d dof : Loc → Hp → Rs V} (c : S.c.Ok) (ow : Own S) (h : EvalOK S n ck value d) (ho : EvalOK S n ck o dof) :
    ExecOK S n ck (.AugAssign (.Attribute o (St f) p) .Add value pos) (fun m H => (dof m H).q fun ov H1 => (Rs.of (attrV S.sg H1 f ov) H1).q fun x H1' => (d m H1').q fun y H2 => (Rs.of (iaddV x y) H2).q fun v H2' => match setAttrV S.sg H2' ov f v with
      | some H3 => .next m H3
      | none => .stuck) := by
  intro A stk env L mc led frs ads m H s Qf Ep hh k
  dsimp only at k
  refine wpAny_AugAssign_AttributeAny (ho hh.here (k.ebind fun ov H1 x h1 t1 ads1 led1 e sr ar ex vr k1 => ?_))
  refine prim_attr (s := { s with heap := h1, toks := t1 }) c ow sr ar vr (k1.ebind fun old H1' y h2 t2 ads2 led2 e2 sr2 ar2 ex2 vr2 k2 => ?_)
  refine h (hh.here.step (tk' := t2) sr2 ar2 (ex.trans ex2)) (k2.ebind fun w H3 z h3 t3 ads3 led3 e3 sr3 ar3 ex3 vr3 k3 => ?_)
  refine prim_iadd (s := { s with heap := h3, toks := t3 }) sr3 ar3 (ex3.vr vr2) vr3 (k3.ebind fun v2 H4 y2 h4 t4 ads4 led4 e4 sr4 ar4 ex4 vr4 k4 => ?_)
  refine prim_setattr (s := { s with heap := h4, toks := t4 }) c ow sr4 ar4 (ex4.vr (ex3.vr (ex2.vr vr))) vr4 ?_
  cases hs : setAttrV S.sg H4 ov f v2 with
  | none => rw [hs] at k4; exact k4.elim
  | some H5 =>
    rw [hs] at k4
    intro h5 t5 led5 sr5 ar5 ex5
    exact k4 h5 t5 ads4 led5 mc sr5 ar5 ex5 (hh.here.lr.ext (ex.trans (ex2.trans (ex3.trans (ex4.trans ex5)))))
theorem x_setidx {o kx value : Expr} {p pos : Pos} {d dof dk : Loc → Hp → Rs V} (hc : notComp value = true) (h : EvalOK S n ck value d) (ho : EvalOK S n ck o dof) (hk : EvalOK S n ck kx dk) :
    ExecOK S n ck (.Assign [.Subscript o kx p] value pos) (fun m H => (d m H).q fun v H1 => (dof m H1).q fun ov H2 => (dk m H2).q fun kv H3 => match setIdxV H3 ov kv v with
      | some H4 => .next m H4
      | none => .stuck) := by
  intro A stk env L mc led frs ads m H s Qf Ep hh k
  dsimp only at k
  refine wpAny_Assign_stores (h hh.here (k.ebind fun v H1 y h1 t1 ads1 led1 e sr ar ex vr k1 => ?_)) (sole_of hc _ _ _) rfl
  show wpAny S.M A (assign (.Subscript o kx p) env y) _ _ _
  rw [arm_assign_Subscript]
  refine wpAny_bind (wpAny_holding (ho (hh.here.step sr ar ex) (k1.ebind fun w H2 z h2 t2 ads2 led2 e2 sr2 ar2 ex2 vr2 k2 => ?_)))
  refine wpAny_bind (wpAny_holding (hk ((hh.here.step (tk' := t1) sr ar ex).step (tk' := t2) sr2 ar2 ex2) (k2.ebind fun kv H3 kz h3 t3 ads3 led3 e3 sr3 ar3 ex3 vr3 k3 => wpAny_bind (wpAny_standAt (wpAny_bind (wpAny_holding ?_))))))
  refine prim_setidx (s := { s with heap := h3, toks := t3 }) sr3 ar3 (ex3.vr vr2) vr3 (ex3.vr (ex2.vr vr)) ?_
  cases hs : setIdxV H3 w kv v with
  | none => rw [hs] at k3; exact k3.elim
  | some H4 =>
    rw [hs] at k3
    intro h4 t4 led4 sr4 ar4 ex4
    exact wpAny_release (k3 h4 t4 ads3 led4 mc sr4 ar4 ex4 (hh.here.lr.ext (ex.trans (ex2.trans (ex3.trans ex4)))))
end
end
-- A21
section
open PySem PySem.W PyProof.Rows PySem.Calls PySem.SeqAt
section
variable {S : Sta} {L : Addr} {led frs : Led} {ads : List Addr} {h : Heap} {p : V} {e : Addr}
theorem keys_drop {q : Addr × Obj} {b : Addr} (hb : b ∉ (led ++ q :: frs).map (·.1)) : b ∉ (led ++ frs).map (·.1) := fun hm => by
  refine hb ?_
  rw [List.map_append] at hm ⊢
  rcases List.mem_append.mp hm with hm | hm
  · exact List.mem_append_left _ hm
  · exact List.mem_append_right _ (List.mem_cons_of_mem _ hm)
theorem flies_drop {q : Addr × Obj} {fo : Option Addr} (fl : Flies S L ads led (q :: frs) h p e fo) : Flies S L ads led frs h p e fo := by
  obtain ⟨oe, vs, de, es, n, pv, g1, g2, g3, g4, g5, g6⟩ := fl.obj
  refine ⟨⟨oe, vs, de, es, n, pv, g1, g2, g3, g4, g5.imp id fun ⟨x, ⟨T, oT, ts, t1, t2, t3, t4, t5, t6, t7, t8⟩, hx⟩ => ⟨x, ⟨T, oT, ts, t1, t2, t3, t4, t5, t6, keys_drop t7, t8⟩, hx⟩, g6⟩, fl.notL, keys_drop fl.off, fl.new⟩
end
section
variable {S : Sta} {n : Nat} {ck : Ck} {A : Around} {stk : List Env} {env : Env} {L : Addr} {mc : Str → Option Value} {led frs : Led} {ads : List Addr} {m : Loc} {H : Hp} {s : Shared} {Qf Qf' : Flow → Shared → Prop} {Ep : Value → Shared → Prop}
/-- what is raised within a loop is noted there, and comes back -/
theorem loop_exc (fra : A.frames = some stk) (hst : StkOk L frs stk) (fr : env.frame = some L) (tops : ∃ outer, stk = env :: outer) {e : Addr} {p : V} {h' : Heap} {tk' : Nat} {ads' : List Addr} {led' frs' : Led} {mc' : Str → Option Value}
    (u : SlotUp frs frs') (sr : SR S.c L mc' led' frs' h') (fl : Flies S L ads' led' frs' h' p e (some L))
    (k : ∀ frs2 h2, SlotUp frs frs2 → SR S.c L mc' led' frs2 h2 → Flies S L ads' led' frs2 h2 p e (some L) → Ep (.ref e) { s with heap := h2, toks := tk' }) :
    notedBy S.M A env (fun e s' => cameBackBy S.M A env Ep e s') (.ref e) { s with heap := h', toks := tk' } := by
  obtain ⟨outer, rfl⟩ := tops
  refine note_go (s := { s with heap := h', toks := tk' }) fra fr (stk_up hst u) sr fl fun h2 frs2 u2 sr2 n2 => ?_
  exact back_go (s := { s with heap := h2, toks := tk' }) fr (stk_up hst (u.trans u2)) sr2 n2 fun h3 sr3 n3 => k frs2 h3 (u.trans u2) sr3 (n3.flies (.inr ⟨L, rfl, rfl⟩))
theorem ZCont.loop {z : Z} (fra : A.frames = some stk) (hst : StkOk L frs stk) (fr : env.frame = some L) (tops : ∃ outer, stk = env :: outer) (k : ZCont S ck L frs ads led s Qf Ep z) :
    ZCont S ck L frs ads led s Qf (notedBy S.M A env fun e s' => cameBackBy S.M A env Ep e s') z := by
  cases z with
  | next m' H' => exact k
  | ret v H' => exact k
  | exc p H' => exact fun e h' tk' ads' led' frs' mc' u sr ar ex fl => loop_exc fra hst fr tops u sr fl fun frs2 h2 u2 sr2 f2 => k e h2 tk' ads' led' frs2 mc' u2 sr2 ar ex f2
  | stuck => exact k
theorem BCont.loop {r : Rs V} {Qb : Bool → Shared → Prop} (fra : A.frames = some stk) (hst : StkOk L frs stk) (fr : env.frame = some L) (tops : ∃ outer, stk = env :: outer)
    (k : BCont S L mc frs ads led s Qb (fun e s' => Ep e s') r) (hE : ∀ {p : V} {H' : Hp}, r = .exc p H' → ∀ e h' tk' ads' led' frs', SlotUp frs frs' → SR S.c L mc led' frs' h' → AR S.c ads' H' led' → Ext S.c ads led ads' led' → Flies S L ads' led' frs' h' p e (some L) → Ep (.ref e) { s with heap := h', toks := tk' }) :
    BCont S L mc frs ads led s Qb (notedBy S.M A env fun e s' => cameBackBy S.M A env Ep e s') r := by
  cases r with
  | ok v H' => exact k
  | exc p H' => exact fun e h' tk' ads' led' frs' u sr ar ex fl => loop_exc fra hst fr tops u sr fl.up fun frs2 h2 u2 sr2 f2 => hE rfl e h2 tk' ads' led' frs2 u2 sr2 ar ex f2
  | stuck => exact k
/-- a while loop's turns -/
theorem x_whl {test : Expr} {body : List Stmt} {pos : Pos} {d : Loc → Hp → Rs V} {db : Loc → Hp → Z} {W : Nat} (h : TestOK S n ck test d) (hb : ExecsOK S n ck body db) :
    ExecOK S n ck (.While test body [] pos) (fun m H => loopW d db W m H) := by
  intro A stk env L mc led frs ads m H s Qf Ep hh k
  dsimp only at k
  refine wpAny_While ?_
  refine codeAny_whileLoop (fun kk s' => ∃ hp tk m H ads1 led1 mc1, s' = { s with heap := hp, toks := tk } ∧ SR S.c L mc1 led1 frs hp ∧ AR S.c ads1 H led1 ∧ Ext S.c ads led ads1 led1 ∧ LR S.c ck.nm m mc1 ads1 led1 ∧
    ZCont S ck L frs ads1 led1 { s with heap := hp, toks := tk } Qf Ep (loopW d db kk m H)) ?_ W ⟨s.heap, s.toks, m, H, ads, led, mc, rfl, hh.here.sr, hh.here.ar, .refl, hh.here.lr, k⟩
  rintro kk s' ⟨hp, tk, m1, H1, ads1, led1, mc1, rfl, sr, ar, ex, lr, k1⟩
  cases kk with
  | zero => exact k1.elim
  | succ kk =>
    have hh1 := hh.to (tk' := tk) sr ar lr
    rw [loopW] at k1
    refine h hh1.here (BCont.loop hh1.here.fra hh1.here.stk hh1.fr hh1.tops (k1.tbind (f := fun b H2 => if b then (db m1 H2).then fun m2 H3 => loopW d db kk m2 H3 else .next m1 H2) fun b H2 h2 t2 ads2 led2 sr2 ar2 ex2 k3 => ?_) ?_)
    · have hh2 := hh1.step (tk' := t2) sr2 ar2 ex2
      cases b with
      | true =>
        refine hb hh2 (ZCont.loop hh2.here.fra hh2.here.stk hh2.fr hh2.tops (ZCont.zbind k3 (fun x s' q => q) fun m3 H3 h3 t3 ads3 led3 mc3 e3 sr3 ar3 ex3 lr3 k4 => ?_))
        exact ⟨kk, Nat.lt_succ_self _, h3, t3, m3, H3, ads3, led3, mc3, rfl, sr3, ar3, ex.trans (ex2.trans ex3), lr3, k4⟩
      | false => exact wpAny_execs_nil (k3 h2 t2 ads2 led2 mc1 sr2 ar2 .refl (lr.ext ex2))
    · intro p H' e
      rw [e] at k1
      exact fun e h' tk' ads' led' frs' u sr ar ex fl => k1 e h' tk' ads' led' frs' mc1 u sr ar ex fl
/-- an object is held aside while a statement runs -/
theorem ZCont.side {z : Z} {f : Loc → Hp → Z} {q : Addr × Obj} (hnf : noFrame q.2) (k : ZCont S ck L frs ads led s Qf Ep (z.then f)) (hq : ∀ x s', Qf (.ret x) s' → Qf' (.ret x) s')
    (g : ∀ m1 H1 h1 t1 ads1 led1 mc1, SR S.c L mc1 led1 (q :: frs) h1 → AR S.c ads1 H1 led1 → Ext S.c ads led ads1 led1 → LR S.c ck.nm m1 mc1 ads1 led1 → ZCont S ck L frs ads1 led1 { s with heap := h1, toks := t1 } Qf Ep (f m1 H1) → Qf' .next { s with heap := h1, toks := t1 }) :
    ZCont S ck L (q :: frs) ads led s Qf' Ep z := by
  cases z with
  | next m' H' => exact fun h' tk' ads' led' mc' sr ar ex lr => g m' H' h' tk' ads' led' mc' sr ar ex lr (ZCont.step (z := f m' H') k ex)
  | ret v H' =>
    intro x h' tk' ads' led' mc' frs' hf sr ar ex vr
    rcases hf with rfl | ⟨hs, hu⟩
    · exact hq _ _ (k x h' tk' ads' led' mc' frs (.inl rfl) sr.drop ar ex vr)
    · cases hu with
      | cons _ u => exact hq _ _ (k x h' tk' ads' led' mc' _ (.inr ⟨hs, u⟩) sr.drop ar ex vr)
  | exc p H' =>
    intro e h' tk' ads' led' frs' mc' u sr ar ex fl
    cases u with
    | cons _ u => exact k e h' tk' ads' led' _ mc' u sr.drop ar ex (flies_drop fl)
  | stuck => exact k
theorem HereS.side (hh : HereS S n ck A stk env L mc led frs ads m H s) {q : Addr × Obj} {hp : Heap} {tk : Nat} {mc1 : Str → Option Value} {led1 : Led} {ads1 : List Addr} {m1 : Loc} {H1 : Hp} (hnf : noFrame q.2) (sr : SR S.c L mc1 led1 (q :: frs) hp) (ar : AR S.c ads1 H1 led1) (lr : LR S.c ck.nm m1 mc1 ads1 led1) :
    HereS S n ck A stk env L mc1 led1 (q :: frs) ads1 m1 H1 { s with heap := hp, toks := tk } :=
  ⟨⟨hh.here.env, sr, ar, lr, hh.here.fra, fun e he => by
    obtain ⟨q1, L', q2, q3⟩ := hh.here.stk e he
    exact ⟨q1, L', q2, q3.imp id fun ⟨o, q4, q5⟩ => ⟨o, List.mem_cons_of_mem _ q4, q5⟩⟩, hh.here.hd, hh.here.room, hh.here.units, fun ht p hp => by
      rcases List.mem_cons.mp hp with rfl | hp
      · exact hnf
      · exact hh.here.tp ht p hp⟩, hh.fr, hh.tops⟩
end
/-- a loop's target takes a value -/
noncomputable def BindOK (S : Sta) (n : Nat) (ck : Ck) (target : Expr) (bind : Loc → V → Option Loc) : Prop :=
  ∀ {A : Around} {stk : List Env} {env : Env} {L : Addr} {mc : Str → Option Value} {led frs : Led} {ads : List Addr} {m m1 : Loc} {H : Hp} {s : Shared} {v : V} {y : Value} {Q : Unit → Shared → Prop} {E : Value → Shared → Prop},
    HereS S n ck A stk env L mc led frs ads m H s → VR S.c.hf (Im S.c ads led) ads v y → bind m v = some m1 →
    (∀ h' tk' mc', SR S.c L mc' led frs h' → LR S.c ck.nm m1 mc' ads led → Q () { s with heap := h', toks := tk' }) → wpAny S.M A (assign target env y) Q E s
section
variable {S : Sta} {n : Nat} {ck : Ck}
/-- where a for loop stands -/
inductive Turn (S : Sta) (ck : Ck) (L : Addr) (frs : Led) (ads : List Addr) (led : Led) (s : Shared) (Qf : Flow → Shared → Prop) (Ep : Value → Shared → Prop) (vs : List V) (I : Addr) (St : Nat → Heap → Prop) (F : List V → Loc → Hp → Z) (kk : Nat) (s' : Shared) : Prop where
  | mk (i : Nat) (hp : Heap) (tk : Nat) (m : Loc) (H : Hp) (ads1 : List Addr) (led1 : Led) (mc1 : Str → Option Value) (oI1 : Obj) (hik : i + kk = vs.length) (e : s' = { s with heap := hp, toks := tk }) (sr : SR S.c L mc1 led1 ((I, oI1) :: frs) hp) (hn1 : noFrame oI1) (st : St i hp)
    (ar : AR S.c ads1 H led1) (ex : Ext S.c ads led ads1 led1) (lr : LR S.c ck.nm m mc1 ads1 led1) (k1 : ZCont S ck L frs ads1 led1 { s with heap := hp, toks := tk } Qf Ep (F (vs.drop i) m H)) : Turn S ck L frs ads led s Qf Ep vs I St F kk s'
/-- a for loop's turns -/
theorem for_turns {target : Expr} {body : List Stmt} {bind : Loc → V → Option Loc} {db : Loc → Hp → Z} (hbind : BindOK S n ck target bind) (hb : ExecsOK S n ck body db)
    {A : Around} {stk : List Env} {env : Env} {L : Addr} {mc : Str → Option Value} {led frs : Led} {ads : List Addr} {m : Loc} {H : Hp} {s : Shared} {Qf : Flow → Shared → Prop} {Ep : Value → Shared → Prop}
    {vs : List V} {I : Addr} {oI : Obj} {fp : List Addr} {P : Nat → Value → Prop} {St : Nat → Heap → Prop}
    (hh : HereS S n ck A stk env L mc led ((I, oI) :: frs) ads m H s) (hh0 : StkOk L frs stk) (hnf : noFrame oI) (W : Walks S.c.prog S.c.w A I fp [I] vs.length P St) (hst : St 0 s.heap)
    (hfp : ∀ b ∈ fp, b = I ∨ ∃ o, Im S.c ads led b o) (hI : ∀ i h, St i h → ∃ o, h.get? I = some o ∧ noFrame o) (hlet : ∀ i s Q E v, St i s.heap → Q () s → wpAny S.M A (letOwnedTupleGo target (.ref I) v) Q E s)
    (hP : ∀ i v y, vs[i]? = some v → P i y → VR S.c.hf (Im S.c ads led) ads v y) (k : ZCont S ck L frs ads led s Qf Ep (loopF bind db vs m H)) :
    codeAny S.M A (.forLoop target (.ref I) body [] env) (fun r s' => match r with
      | .ok f => Qf f s'
      | .error e => cameBackBy S.M A env Ep e s') s := by
  refine codeAny_forLoop_any (Turn S ck L frs ads led s Qf Ep vs I St (loopF bind db)) ?_ vs.length ⟨0, s.heap, s.toks, m, H, ads, led, mc, oI, Nat.zero_add _, rfl, hh.here.sr, hnf, hst, hh.here.ar, .refl, hh.here.lr, by rw [List.drop_zero]; exact k⟩
  rintro kk s' ⟨i, hp, tk, m1, H1, ads1, led1, mc1, oI1, hik, rfl, sr, hn1, st, ar, ex, lr, k1⟩
  cases kk with
  | zero =>
    have hi : i = vs.length := by omega
    subst hi
    refine W.done { s with heap := hp, toks := tk } _ _ st fun h2 t2 keep => ?_
    rw [List.drop_length] at k1
    exact wpAny_execs_nil (k1 h2 t2 ads1 led1 mc1 (sr.lose fun b q hb g => keep b q (by simpa using hb) g) ar .refl lr)
  | succ kk =>
    have hlt : i < vs.length := by omega
    refine W.item i { s with heap := hp, toks := tk } _ _ hlt st fun y h2 t2 py st2 keep => ?_
    obtain ⟨oI2, gI2, hn2⟩ := hI _ _ st2
    have sr2 := sr.change (o' := oI2) (fun b q hb g => keep b q (by simpa using hb) g) gI2
    refine hlet (i + 1) _ _ _ _ st2 ?_
    rw [List.drop_eq_getElem_cons hlt] at k1
    replace k1 : ZCont S ck L frs ads1 led1 { s with heap := hp, toks := tk } Qf Ep (match bind m1 vs[i] with | some m1 => (db m1 H1).then fun m2 H2 => loopF bind db (vs.drop (i + 1)) m2 H2 | none => .stuck) := k1
    have vr := ex.vr (hP i vs[i] y (List.getElem?_eq_getElem hlt) py)
    cases hbd : bind m1 vs[i] with
    | none => rw [hbd] at k1; exact k1.elim
    | some m2 =>
      rw [hbd] at k1
      have hst2 : StkOk L ((I, oI2) :: frs) stk := fun e he => by
        obtain ⟨q1, L', q2, q3⟩ := hh0 e he
        exact ⟨q1, L', q2, q3.imp id fun ⟨o, q4, q5⟩ => ⟨o, List.mem_cons_of_mem _ q4, q5⟩⟩
      have hh2 : HereS S n ck A stk env L mc1 led1 ((I, oI2) :: frs) ads1 m1 H1 { s with heap := h2, toks := t2 } :=
        ⟨⟨hh.here.env, sr2, ar, lr, hh.here.fra, hst2, hh.here.hd, hh.here.room, hh.here.units, fun ht p hp => by
          rcases List.mem_cons.mp hp with rfl | hp
          · exact hn2
          · exact hh.here.tp ht p (List.mem_cons_of_mem _ hp)⟩, hh.fr, hh.tops⟩
      refine hbind hh2 vr hbd fun h3 t3 mc3 sr3 lr3 => ?_
      have hh3 := hh2.to (tk' := t3) sr3 ar lr3
      refine hb hh3 (ZCont.loop hh3.here.fra hst2 hh3.fr hh3.tops (ZCont.side (f := fun m2 H2 => loopF bind db (vs.drop (i + 1)) m2 H2) hn2 (ZCont.step (h1 := h3) (t1 := t3) k1 .refl) (fun x s' q => q) fun m4 H4 h4 t4 ads4 led4 mc4 sr4 ar4 ex4 lr4 k4 => ?_))
      refine ⟨kk, Nat.lt_succ_self _, i + 1, h4, t4, m4, H4, ads4, led4, mc4, oI2, by omega, rfl, sr4, hn2, ?_, ar4, ex.trans ex4, lr4, k4⟩
      refine W.frame (i + 1) h2 h4 st2 fun b hb o g => ?_
      rcases hfp b hb with rfl | ⟨o', him⟩
      · rw [gI2] at g; cases g
        exact (sr4.nw (b, oI2) (List.mem_append_right _ List.mem_cons_self)).1
      · have e1 := sr2.im (ex.im _ _ him)
        rw [e1] at g; cases g
        exact sr4.im (ex4.im _ _ (ex.im _ _ him))
end
end
-- A22
section
open PySem PySem.W PyProof.Rows PySem.Calls PySem.SeqAt
/-- names and their places -/
inductive NmsOK (ck : Ck) : List Expr → List Nat → Prop where
  | nil : NmsOK ck [] []
  | cons {x : Str} {p : Pos} {i : Nat} {es : List Expr} {is : List Nat} : ck.nm[i]? = some x → ck.sc.names.lookup x = some .local → NmsOK ck es is → NmsOK ck (.Name x p :: es) (i :: is)
section
variable {S : Sta} {n : Nat} {ck : Ck}
theorem bind_name {x : Str} {p : Pos} {i : Nat} (nd : ck.nm.Nodup) (hx : ck.nm[i]? = some x) (hk : ck.sc.names.lookup x = some .local) : BindOK S n ck (.Name x p) (fun m v => some (setL m i v)) := by
  intro A stk env L mc led frs ads m m1 H s v y Q E hh vr hb k
  cases hb
  exact wpAny_assign_Name (store_go hh.here.env hk hh.here.sr fun h' sr' => k h' _ _ sr' (hh.here.lr.set nd hx .refl vr))
theorem nms_len {es : List Expr} {is : List Nat} (h : NmsOK ck es is) : es.length = is.length := by
  induction h with
  | nil => rfl
  | cons _ _ _ ih => simp [ih]
theorem each_len : ∀ {es : List Expr} {is : List Nat}, NmsOK ck es is → ∀ env, (assignEach es env).length = is.length ∧ (assignEach es env).findIdx? (·.1) = none
  | _, _, .nil, _ => ⟨rfl, rfl⟩
  | _, _, .cons _ _ r, env => by
    have ih := each_len r env
    refine ⟨congrArg (· + 1) ih.1, ?_⟩
    show List.findIdx? _ ((false, _) :: assignEach _ env) = none
    rw [List.findIdx?_cons, ih.2]; rfl
theorem names_go (nd : ck.nm.Nodup) : ∀ {es : List Expr} {is : List Nat}, NmsOK ck es is → ∀ {A : Around} {stk : List Env} {env : Env} {L : Addr} {mc : Str → Option Value} {led frs : Led} {ads : List Addr} {m : Loc} {H : Hp} {s : Shared} {vs : List V} {ys : List Value} {Q : Unit → Shared → Prop} {E : Value → Shared → Prop},
    HereS S n ck A stk env L mc led frs ads m H s → VRs S.c.hf (Im S.c ads led) ads vs ys → vs.length = is.length → (∀ h' tk' mc', SR S.c L mc' led frs h' → LR S.c ck.nm (setLs m is vs) mc' ads led → Q () { s with heap := h', toks := tk' }) →
    wpAny S.M A (assignInOrder ((assignEach es env).map (·.2)) ys) Q E s := by
  intro es is h
  induction h with
  | nil =>
    intro A stk env L mc led frs ads m H s vs ys Q E hh vr hl k
    have : vs = [] := List.length_eq_zero_iff.mp hl
    subst this
    cases vr
    exact wpAny_pure (k s.heap s.toks mc hh.here.sr hh.here.lr)
  | @cons x p i es is hx hk r ih =>
    intro A stk env L mc led frs ads m H s vs ys Q E hh vr hl k
    cases vr with
    | nil => cases hl
    | @cons v y vs ys a q =>
      refine wpAny_bind (wpAny_holding ?_)
      refine bind_name (p := p) nd hx hk hh a rfl fun h' tk' mc' sr' lr' => ?_
      exact ih (hh.to (tk' := tk') sr' hh.here.ar lr') q (by simpa using hl) k
theorem bind_tuple {es : List Expr} {is : List Nat} {kk : Nat} {p : Pos} (nd : ck.nm.Nodup) (h : NmsOK ck es is) : BindOK S n ck (.Tuple es kk p) (bindT is) := by
  intro A stk env L mc led frs ads m m1 H s v y Q E hh vr hb k
  unfold bindT at hb
  split at hb
  · rename_i vs
    split at hb
    · rename_i hl
      cases hb
      obtain ⟨a, xs, n1, rfl, p1, r1⟩ := vr_tup_inv vr
      have hx := each_len h env
      refine wpAny_assign_Tuple hh.here.hd ⟨_, hh.here.sr.im p1, rfl, _, rfl⟩ (by rw [hx.1, List.size_toArray, ← r1.length]; exact hl.symm) hx.2 fun h' he => ?_
      have sr' := hh.here.sr.grown fun b o g => he b o (Nat.ne_of_lt (Heap.lt_size g)) g
      refine names_go nd h (hh.to (tk' := s.toks) sr' hh.here.ar hh.here.lr) (by simpa using r1) hl k
    · cases hb
  · cases hb
theorem noFrame_fields {cls : Value} {vs : Array Value} : noFrame { cls := cls, data := .fields vs } := fun _ _ h => nomatch h
/-- the source of a for loop: a text, a tuple, a list -/
theorem for_src {x : Expr} {body : List Stmt} {bind : Loc → V → Option Loc} {db : Loc → Hp → Z} (hbind : BindOK S n ck x bind) (hb : ExecsOK S n ck body db)
    (hlet : ∀ {A : Around} {s : Shared} {I : Addr} {T : String} {vs : Array Value} {d : Option Addr} {sl : Array (Option Value)} {Q : Unit → Shared → Prop} {E : Value → Shared → Prop} {v : Value}, s.heap.get? I = some ⟨.type T, d, .fields vs, sl⟩ → T = "tuple_iterator" ∨ T = "list_iterator" ∨ T = "str_ascii_iterator" ∨ T = "str_iterator" ∨ T = "range_iterator" → Q () s → wpAny S.M A (letOwnedTupleGo x (.ref I) v) Q E s)
    {A : Around} {stk : List Env} {env : Env} {L : Addr} {mc : Str → Option Value} {led frs : Led} {ads : List Addr} {m : Loc} {H : Hp} {s : Shared} {Qf : Flow → Shared → Prop} {Ep : Value → Shared → Prop} {v : V} {y : Value} {vs : List V}
    (hh : HereS S n ck A stk env L mc led frs ads m H s) (vr : VR S.c.hf (Im S.c ads led) ads v y) (hi : itemsF v = some vs) (k : ZCont S ck L frs ads led s Qf Ep (loopF bind db vs m H)) :
    wpAny S.M A (pyIter y) (fun it s₂ => codeAny S.M A (.forLoop x it body [] env) (fun r s' => match r with
      | .ok f => Qf f s'
      | .error e => cameBackBy S.M A env Ep e s') s₂) Ep s := by
  have go : ∀ (T : String) (fs : Array Value) (fp : List Addr) (P : Nat → Value → Prop) (St : Nat → Heap → Prop), (T = "tuple_iterator" ∨ T = "list_iterator" ∨ T = "str_ascii_iterator" ∨ T = "str_iterator" ∨ T = "range_iterator") →
      Walks S.c.prog S.c.w A s.heap.objs.size fp [s.heap.objs.size] vs.length P St → St 0 (s.heap.push { cls := .type T, data := .fields fs }) → (∀ b ∈ fp, b = s.heap.objs.size ∨ ∃ o, Im S.c ads led b o) →
      (∀ i h, St i h → ∃ o fs, h.get? s.heap.objs.size = some o ∧ o.cls = .type T ∧ o.data = .fields fs) → (∀ i v y, vs[i]? = some v → P i y → VR S.c.hf (Im S.c ads led) ads v y) →
      codeAny S.M A (.forLoop x (.ref s.heap.objs.size) body [] env) (fun r s' => match r with
        | .ok f => Qf f s'
        | .error e => cameBackBy S.M A env Ep e s') { s with heap := s.heap.push { cls := .type T, data := .fields fs } } := by
    intro T fs fp P St hT W hst hfp hI hP
    have srI := hh.here.sr.aside { cls := .type T, data := .fields fs }
    refine for_turns hbind hb (hh.side (tk := s.toks) noFrame_fields srI hh.here.ar hh.here.lr) hh.here.stk noFrame_fields W hst hfp (fun i h st => ?_) (fun i s' Q E w st q => ?_) hP (ZCont.step (h1 := s.heap.push { cls := .type T, data := .fields fs }) (t1 := s.toks) k .refl)
    · obtain ⟨o, fs', g, c, d⟩ := hI i h st
      exact ⟨o, g, fun es ep e => by rw [d] at e; cases e⟩
    · obtain ⟨⟨oc, od, oda, osl⟩, fs', g, c, d⟩ := hI i _ st
      cases c; cases d
      exact hlet g hT q
  unfold itemsF at hi
  split at hi
  · split at hi
    · rename_i l hl
      cases hi
      cases vr with
      | str _ t =>
      have hlen : (l.map fun c => V.str [c]).length = (St l).cps.size := by simp [St]
      have hP : ∀ i v y, (l.map fun c => V.str [c])[i]? = some v → SignAt (St l) i y → VR S.c.hf (Im S.c ads led) ads v y := by
        intro i v y h1 ⟨c, u, h2, h3⟩
        subst h3
        have : l[i]? = some c := by simpa [St] using h2
        rw [List.getElem?_map, this] at h1
        cases h1
        exact .str [c] u
      cases ha : (St l).cps.all (· < 128)
      · refine wpAny_pyIter_wide ha (go "str_iterator" _ [s.heap.objs.size] (SignAt (St l)) (fun i h => h.IsStrIter s.heap.objs.size "str_iterator" (St l) t i) (by simp) (by rw [hlen]; exact Walks.strWide hh.here.hd s.heap.objs.size (St l) t) ⟨_, Heap.get?_push_size _ rfl, rfl, rfl⟩ (fun b hb => .inl (by simpa using hb)) (fun i h ⟨o, g, c, d⟩ => ⟨o, _, g, c, d⟩) hP)
      · refine wpAny_pyIter_ascii ha (go "str_ascii_iterator" _ [s.heap.objs.size] (SignAt (St l)) (fun i h => h.IsStrIter s.heap.objs.size "str_ascii_iterator" (St l) t i) (by simp) (by rw [hlen]; exact Walks.strAscii hh.here.hd s.heap.objs.size (St l) t) ⟨_, Heap.get?_push_size _ rfl, rfl, rfl⟩ (fun b hb => .inl (by simpa using hb)) (fun i h ⟨o, g, c, d⟩ => ⟨o, _, g, c, d⟩) hP)
    · cases hi
  · split at hi
    · cases hi
      obtain ⟨a, xs, n1, rfl, p1, r1⟩ := vr_tup_inv vr
      have ga := hh.here.sr.im p1
      have hne : a ≠ s.heap.objs.size := Nat.ne_of_lt (Heap.lt_size ga)
      have ht : s.heap.IsTuple a xs.toArray := ⟨_, ga, rfl, _, rfl⟩
      refine wpAny_pyIter_tuple ht (go "tuple_iterator" _ [s.heap.objs.size, a] (fun i v => xs.toArray[i]? = some v) (fun i h => h.IsTupleIter s.heap.objs.size a i ∧ h.IsTuple a xs.toArray) (by simp) (by
        rw [show vs.length = xs.toArray.size by rw [List.size_toArray, r1.length]]
        exact Walks.tuple (prog := S.c.prog) (w := S.c.w) hh.here.hd s.heap.objs.size a hne xs.toArray) ⟨⟨_, Heap.get?_push_size _ rfl, rfl, rfl⟩, ht.push _⟩ (fun b hb => ?_) (fun i h ⟨⟨o, g, c, d⟩, _⟩ => ⟨o, _, g, c, d⟩) fun i v y h1 h2 => ?_)
      · rcases List.mem_cons.mp hb with rfl | hb
        · exact .inl rfl
        · exact .inr ⟨_, (List.mem_singleton.mp hb) ▸ p1⟩
      · obtain ⟨z, g1, g2⟩ := r1.get h1
        have : xs[i]? = some y := by simpa using h2
        rw [this] at g1; cases g1; exact g2
    · cases hi
  · split at hi
    · cases hi
      obtain ⟨a, xs, n1, rfl, p1, r1⟩ := vr_lst_inv vr
      have ga := hh.here.sr.im p1
      have hne : a ≠ s.heap.objs.size := Nat.ne_of_lt (Heap.lt_size ga)
      have ht : s.heap.IsList a xs.toArray := ⟨_, ga, rfl, _, rfl⟩
      refine wpAny_pyIter_list ht (go "list_iterator" _ [s.heap.objs.size, a] (fun i v => xs.toArray[i]? = some v) (fun i h => h.IsListIter s.heap.objs.size a i ∧ h.IsList a xs.toArray) (by simp) (by
        rw [show vs.length = xs.toArray.size by rw [List.size_toArray, r1.length]]
        exact Walks.list (prog := S.c.prog) (w := S.c.w) hh.here.hd s.heap.objs.size a hne xs.toArray) ⟨⟨_, Heap.get?_push_size _ rfl, rfl, rfl⟩, ⟨_, Heap.get?_push_of_some _ ga, rfl, _, rfl⟩⟩ (fun b hb => ?_) (fun i h ⟨⟨o, g, c, d⟩, _⟩ => ⟨o, _, g, c, d⟩) fun i v y h1 h2 => ?_)
      · rcases List.mem_cons.mp hb with rfl | hb
        · exact .inl rfl
        · exact .inr ⟨_, (List.mem_singleton.mp hb) ▸ p1⟩
      · obtain ⟨z, g1, g2⟩ := r1.get h1
        have : xs[i]? = some y := by simpa using h2
        rw [this] at g1; cases g1; exact g2
    · cases hi
  · cases hi
end
end
-- A23
section
open PySem PySem.W PyProof.Rows PySem.Calls PySem.SeqAt
theorem let_name {S : Sta} {x : Str} {p : Pos} {A : Around} {s : Shared} {I : Addr} {T : String} {vs : Array Value} {d : Option Addr} {sl : Array (Option Value)} {Q : Unit → Shared → Prop} {E : Value → Shared → Prop} {v : Value} (_ : s.heap.get? I = some ⟨.type T, d, .fields vs, sl⟩)
    (_ : T = "tuple_iterator" ∨ T = "list_iterator" ∨ T = "str_ascii_iterator" ∨ T = "str_iterator" ∨ T = "range_iterator") (q : Q () s) : wpAny S.M A (letOwnedTupleGo (.Name x p) (.ref I) v) Q E s := wpAny_pure q
theorem let_tuple {S : Sta} {es : List Expr} {k : Nat} {p : Pos} {A : Around} {s : Shared} {I : Addr} {T : String} {vs : Array Value} {d : Option Addr} {sl : Array (Option Value)} {Q : Unit → Shared → Prop} {E : Value → Shared → Prop} {v : Value} (g : s.heap.get? I = some ⟨.type T, d, .fields vs, sl⟩)
    (hT : T = "tuple_iterator" ∨ T = "list_iterator" ∨ T = "str_ascii_iterator" ∨ T = "str_iterator" ∨ T = "range_iterator") (q : Q () s) : wpAny S.M A (letOwnedTupleGo (.Tuple es k p) (.ref I) v) Q E s := by
  unfold letOwnedTupleGo
  cases v with
  | ref a =>
    refine wpAny_bind (wpAny_load g ?_)
    have : (["enumerate", "zip", "dict_itemiterator", "dict_reverseitemiterator", "odict_iterator", "itertools.zip_longest", "itertools.pairwise"].contains T) = false := by
      rcases hT with rfl | rfl | rfl | rfl | rfl <;> decide
    dsimp only
    rw [this]
    exact wpAny_pure q
  | _ => exact wpAny_pure q
section
variable {S : Sta} {n : Nat} {ck : Ck}
theorem x_fors {i : Nat} {x : Str} {p pos : Pos} {iter : Expr} {body : List Stmt} {d : Loc → Hp → Rs V} {db : Loc → Hp → Z} (nd : ck.nm.Nodup) (hx : ck.nm[i]? = some x) (hk : ck.sc.names.lookup x = some .local) (hit : plainIter iter = true)
    (h : EvalOK S n ck iter d) (hb : ExecsOK S n ck body db) :
    ExecOK S n ck (.For (.Name x p) iter body [] pos) (fun m H => (d m H).q fun v H1 => match itemsF v with
      | some vs => loopF (fun m v => some (setL m i v)) db vs m H1
      | none => .stuck) := by
  intro A stk env L mc led frs ads m H s Qf Ep hh k
  dsimp only at k
  refine wpAny_For (h hh.here (k.ebind fun v H1 y h1 t1 ads1 led1 e sr ar ex vr k1 => ?_)) (folded_of hit env)
  cases hv : itemsF v with
  | none => rw [hv] at k1; exact k1.elim
  | some vs =>
    rw [hv] at k1
    exact for_src (bind_name nd hx hk) hb let_name (hh.step sr ar ex) vr hv k1
theorem x_forT {es : List Expr} {is : List Nat} {kk : Nat} {p pos : Pos} {iter : Expr} {body : List Stmt} {d : Loc → Hp → Rs V} {db : Loc → Hp → Z} (nd : ck.nm.Nodup) (hes : NmsOK ck es is) (hit : plainIter iter = true)
    (h : EvalOK S n ck iter d) (hb : ExecsOK S n ck body db) :
    ExecOK S n ck (.For (.Tuple es kk p) iter body [] pos) (fun m H => (d m H).q fun v H1 => match v with
      | .tup vs => if vs.length ≤ big then loopF (bindT is) db vs m H1 else .stuck
      | _ => .stuck) := by
  intro A stk env L mc led frs ads m H s Qf Ep hh k
  dsimp only at k
  refine wpAny_For (h hh.here (k.ebind fun v H1 y h1 t1 ads1 led1 e sr ar ex vr k1 => ?_)) (folded_of hit env)
  cases v with
  | tup vs =>
    dsimp only at k1
    split at k1
    · rename_i hl
      exact for_src (vs := vs) (bind_tuple nd hes) hb let_tuple (hh.step sr ar ex) vr (by simp only [itemsF, if_pos hl]) k1
    · exact k1.elim
  | _ => exact k1.elim
theorem x_forR {i : Nat} {x : Str} {f : Str} {fp p pos cp : Pos} {e : Expr} {body : List Stmt} {d : Loc → Hp → Rs V} {db : Loc → Hp → Z} (c : S.c.Ok) (nd : ck.nm.Nodup) (hx : ck.nm[i]? = some x) (hk : ck.sc.names.lookup x = some .local)
    (fnm : ck.sc.names.lookup f = some .globalImplicit) (fnd : (f == ("__debug__" : Str)) = false) (fmg : S.c.mg f = none) (fmb : S.c.mb f = some (.type "range")) (hs : notStar e = true)
    (h : EvalOK S n ck e d) (hb : ExecsOK S n ck body db) :
    ExecOK S n ck (.For (.Name x p) (.Call (.Name f fp) [e] [] cp) body [] pos) (fun m H => (d m H).q fun v H1 => match v with
      | .int n => if 0 ≤ n ∧ n ≤ big then loopF (fun m v => some (setL m i v)) db ((List.range n.toNat).map fun (k : Nat) => .int k) m H1 else .stuck
      | _ => .stuck) := by
  intro A stk env L mc led frs ads m H s Qf Ep hh k
  dsimp only at k
  refine wpAny_For ?_ (folded_of rfl env)
  have hek : env.kindOf f = some .globalImplicit := by show env.scope.names.lookup f = _; rw [hh.here.env.sc]; exact fnm
  refine Call_ (Name_function_global (by rw [hh.here.env.sc]; exact hh.here.env.kind) hek (loadGlobal_builtin (by rw [hh.here.env.gl]; exact c.g.keeps hh.here.sr.fr.keep) fmg (by rw [hh.here.env.bl]; exact c.b.keeps hh.here.sr.fr.keep) fmb ?_) fnd)
  refine PyProof.Rows.callWith_type1 (one_arg hs (h hh.here (k.ebind fun v H1 y h1 t1 ads1 led1 e sr ar ex vr k1 => ?_))) (star_of hs env) (noStar (by rfl) env)
  cases v with
  | int z =>
    dsimp only at k1
    split at k1
    · rename_i hz
      cases vr with
      | int _ tz =>
      refine call_range_1 (s := { s with heap := h1, toks := t1 }) ?_
      dsimp only
      have hb1 : (big : Int) < 2 ^ 62 := by decide
      obtain ⟨z, rfl⟩ := Int.eq_ofNat_of_zero_le hz.1
      have hz2 := hz.2
      refine wpAny_pyIter_range (s := { s with heap := h1.push _, toks := _ }) (IsRange.new h1 0 z 1 _ _ _) (small_one (by omega) (by omega) (by omega) (by omega)) ?_
      rw [rangeSize_one]
      have hz3 : (if (0 : Int) < (z : Int) then (z : Int) - 0 else 0) = (z : Int) := by split <;> omega
      rw [hz3]
      have sr1 := sr.grown fun b o g => Heap.get?_push_of_some { cls := .type "range", data := .fields #[.int 0 t1, .int (z : Int) tz, .int 1 (t1 + 1)] } g
      have srI := sr1.aside { cls := .type "range_iterator", data := .fields #[rawInt 0, rawInt (z : Int), rawInt 1] }
      have hlen : ((List.range (z : Int).toNat).map fun (k : Nat) => V.int k).length = z := by simp
      refine for_turns (bind_name nd hx hk) hb (hh.side (tk := t1 + 1 + 1) noFrame_fields srI ar (hh.here.lr.ext ex)) hh.here.stk noFrame_fields
        (St := fun i h => IsRangeIter h (h1.push { cls := .type "range", data := .fields #[.int 0 t1, .int (z : Int) tz, .int 1 (t1 + 1)] }).objs.size (0 + (i : Int) * 1) ((z : Int) - i) 1)
        (P := fun i v => ∃ t, v = Value.int (0 + (i : Int) * 1) t) (fp := [(h1.push { cls := .type "range", data := .fields #[.int 0 t1, .int (z : Int) tz, .int 1 (t1 + 1)] }).objs.size])
        (by rw [hlen]; exact Walks.range hh.here.hd _ 0 1 z) ?_ (fun b hb => .inl (by simpa using hb)) (fun i h g => ⟨_, g, noFrame_fields⟩) (fun i s Q E v g q => wpAny_pure q) (fun i v y h1 h2 => ?_) (ZCont.step k1 .refl)
      · have := Heap.get?_push_size (h1.push { cls := .type "range", data := .fields #[.int 0 t1, .int (z : Int) tz, .int 1 (t1 + 1)] }) (o := { cls := .type "range_iterator", data := .fields #[rawInt 0, rawInt (z : Int), rawInt 1] }) rfl
        simpa using this
      · obtain ⟨t, rfl⟩ := h2
        rw [List.getElem?_map] at h1
        cases hq : (List.range (z : Int).toNat)[i]? with
        | none => rw [hq] at h1; cases h1
        | some j =>
          rw [hq] at h1
          have hj : j = i := by
            have := (List.getElem?_eq_some_iff.mp hq).2
            simpa using this.symm
          cases h1
          subst hj
          simpa using VR.int (j : Int) t
    · exact k1.elim
  | _ => exact k1.elim
end
end
-- A24
section
open PySem PySem.W PyProof.Rows PySem.Calls PySem.SeqAt
noncomputable def sw1 (sc : Scope) (ts vs : List Expr) : Bool := !(ts.length == 2 || ts.length == 3) || vs.length != ts.length || (if sc.kind.isAnnotationScope then .function else sc.kind) != .function
noncomputable def sw2 (vs : List Expr) : Bool := vs.any fun | .Starred .. => true | _ => false
noncomputable def swN (sc : Scope) (ts : List Expr) : List Str :=
  let line := (ts.head?.map (·.pos.line)).getD 0
  ts.filterMap fun
    | .Name id pos => if sc.names.lookup id == some .local && pos.line == line then some id else none
    | _ => none
noncomputable def sw3 (ts : List Expr) (names : List Str) : Bool := names.length != ts.length || names.eraseDups.length != names.length
theorem swap_eq (ts vs : List Expr) (k k2 : Nat) (p p2 : Pos) (env : Env) : swappedStores [.Tuple ts k p] (.Tuple vs k2 p2) env =
    (if sw1 env.scope ts vs = true then pure none else if sw2 vs = true then pure none else if sw3 ts (swN env.scope ts) = true then pure none else if vs.all (foldedForSure 8) = true then pure none else
      if vs.all (constantsAlone 8) = true then (unsupported "assign.tuple-of-constant-expressions:order-of-the-stores" >>= fun (_ : Unit) => pure (some (swN env.scope ts))) else pure (some (swN env.scope ts))) := by
  show (do
    if sw1 env.scope ts vs then return none
    if sw2 vs then return none
    if sw3 ts (swN env.scope ts) then return none
    if vs.all (foldedForSure 8) then return none
    if vs.all (constantsAlone 8) then unsupported "assign.tuple-of-constant-expressions:order-of-the-stores"
    return some (swN env.scope ts)) = _
  repeat' (first | rfl | split)
/-- what a tuple's targets do: none: nothing is known -/
noncomputable def swapRes (sc : Scope) (ts : List Expr) : Expr → Option (Option (List Str))
  | .Tuple vs _ _ => if sw1 sc ts vs then some none else if sw2 vs then some none else if sw3 ts (swN sc ts) then some none else if vs.all (foldedForSure 8) then some none else if vs.all (constantsAlone 8) then none else some (some (swN sc ts))
  | _ => some none
theorem swap_of {sc : Scope} {ts : List Expr} {v : Expr} {r : Option (List Str)} {k : Nat} {p : Pos} {env : Env} (he : env.scope = sc) (h : swapRes sc ts v = some r) : swappedStores [.Tuple ts k p] v env = pure r := by
  subst he
  cases v with
  | Tuple vs k2 p2 =>
    rw [swap_eq]
    dsimp only [swapRes] at h
    by_cases h1 : sw1 env.scope ts vs = true
    · rw [if_pos h1] at h ⊢; cases h; rfl
    · rw [if_neg h1] at h ⊢
      by_cases h2 : sw2 vs = true
      · rw [if_pos h2] at h ⊢; cases h; rfl
      · rw [if_neg h2] at h ⊢
        by_cases h3 : sw3 ts (swN env.scope ts) = true
        · rw [if_pos h3] at h ⊢; cases h; rfl
        · rw [if_neg h3] at h ⊢
          by_cases h4 : vs.all (foldedForSure 8) = true
          · rw [if_pos h4] at h ⊢; cases h; rfl
          · rw [if_neg h4] at h ⊢
            by_cases h5 : vs.all (constantsAlone 8) = true
            · rw [if_pos h5] at h; cases h
            · rw [if_neg h5] at h ⊢; cases h; rfl
  | _ => cases h; rfl
/-- targets and what they do -/
inductive TgsOK (S : Sta) (n : Nat) (ck : Ck) (F : Fns) : List Expr → List Tg → Prop where
  | nil : TgsOK S n ck F [] []
  | loc {x : Str} {p : Pos} {i : Nat} {es : List Expr} {ts : List Tg} : ck.nm[i]? = some x → ck.sc.names.lookup x = some .local → TgsOK S n ck F es ts → TgsOK S n ck F (.Name x p :: es) (.loc i :: ts)
  | sub {o kx : Expr} {eo ek : Ex} {p : Pos} {es : List Expr} {ts : List Tg} : EvalOK S n ck o (evalE F S.G S.sg eo) → EvalOK S n ck kx (evalE F S.G S.sg ek) → TgsOK S n ck F es ts → TgsOK S n ck F (.Subscript o kx p :: es) (.sub eo ek :: ts)
section
variable {S : Sta} {n : Nat} {ck : Ck} {F : Fns}
theorem tgs_len {es : List Expr} {ts : List Tg} (h : TgsOK S n ck F es ts) (env : Env) : (assignEach es env).length = ts.length ∧ (assignEach es env).findIdx? (·.1) = none := by
  induction h with
  | nil => exact ⟨rfl, rfl⟩
  | loc _ _ _ ih =>
    refine ⟨congrArg (· + 1) ih.1, ?_⟩
    show List.findIdx? _ ((false, _) :: assignEach _ env) = none
    rw [List.findIdx?_cons, ih.2]; rfl
  | sub _ _ _ ih =>
    refine ⟨congrArg (· + 1) ih.1, ?_⟩
    show List.findIdx? _ ((false, _) :: assignEach _ env) = none
    rw [List.findIdx?_cons, ih.2]; rfl
theorem tgs_go (nd : ck.nm.Nodup) {es : List Expr} {ts : List Tg} (h : TgsOK S n ck F es ts) : ∀ {A : Around} {stk : List Env} {env : Env} {L : Addr} {mc : Str → Option Value} {led frs : Led} {ads : List Addr} {m : Loc} {H : Hp} {s : Shared} {vs : List V} {ys : List Value} {Qf : Flow → Shared → Prop} {Ep : Value → Shared → Prop},
    HereS S n ck A stk env L mc led frs ads m H s → VRs S.c.hf (Im S.c ads led) ads vs ys → ZCont S ck L frs ads led s Qf Ep (storeT F S.G S.sg ts vs m H) →
    wpAny S.M A (assignInOrder ((assignEach es env).map (·.2)) ys) (fun _ s' => Qf .next s') Ep s := by
  induction h with
  | nil =>
    intro A stk env L mc led frs ads m H s vs ys Qf Ep hh vr k
    cases vr with
    | nil =>
      rw [storeT] at k
      exact wpAny_pure (k s.heap s.toks ads led mc hh.here.sr hh.here.ar .refl hh.here.lr)
    | cons a q => rw [storeT] at k <;> first | exact k.elim | simp
  | @loc x p i es ts hx hk r ih =>
    intro A stk env L mc led frs ads m H s vs ys Qf Ep hh vr k
    cases vr with
    | nil => rw [storeT] at k <;> first | exact k.elim | simp
    | @cons v y vs ys a q =>
      rw [storeT] at k
      refine wpAny_bind (wpAny_holding ?_)
      refine bind_name (p := p) nd hx hk hh a rfl fun h' tk' mc' sr' lr' => ?_
      exact ih (hh.to (tk' := tk') sr' hh.here.ar lr') q (ZCont.step k .refl)
  | @sub o kx eo ek p es ts ho hk r ih =>
    intro A stk env L mc led frs ads m H s vs ys Qf Ep hh vr k
    cases vr with
    | nil => rw [storeT] at k <;> first | exact k.elim | simp
    | @cons v y vs ys a q =>
      rw [storeT] at k
      refine wpAny_bind (wpAny_holding ?_)
      show wpAny S.M A (assign (.Subscript o kx p) env y) _ _ _
      rw [arm_assign_Subscript]
      refine wpAny_bind (wpAny_holding (ho hh.here (k.ebind fun w H2 z h2 t2 ads2 led2 e2 sr2 ar2 ex2 vr2 k2 => ?_)))
      refine wpAny_bind (wpAny_holding (hk (hh.here.step (tk' := t2) sr2 ar2 ex2) (k2.ebind fun kv H3 kz h3 t3 ads3 led3 e3 sr3 ar3 ex3 vr3 k3 => wpAny_bind (wpAny_standAt (wpAny_bind (wpAny_holding ?_))))))
      refine prim_setidx (s := { s with heap := h3, toks := t3 }) sr3 ar3 (ex3.vr vr2) vr3 (ex3.vr (ex2.vr a)) ?_
      cases hs : setIdxV H3 w kv v with
      | none => rw [hs] at k3; exact k3.elim
      | some H4 =>
        rw [hs] at k3
        intro h4 t4 led4 sr4 ar4 ex4
        refine wpAny_release (ih ((hh.step (tk' := t2) sr2 ar2 ex2).step (tk' := t3) sr3 ar3 ex3 |>.step (tk' := t4) sr4 ar4 ex4) ((ex2.trans (ex3.trans ex4)).vrs q) (ZCont.step k3 ex4))
theorem x_asgU {es : List Expr} {ts : List Tg} {value : Expr} {kk : Nat} {p pos : Pos} {d : Loc → Hp → Rs V} (nd : ck.nm.Nodup) (hes : TgsOK S n ck F es ts) (hc : notComp value = true) (hsw : swapRes ck.sc es value = some none) (h : EvalOK S n ck value d) :
    ExecOK S n ck (.Assign [.Tuple es kk p] value pos) (fun m H => (d m H).q fun v H1 => match v with
      | .tup vs => if vs.length = ts.length then storeT F S.G S.sg ts vs m H1 else .stuck
      | _ => .stuck) := by
  intro A stk env L mc led frs ads m H s Qf Ep hh k
  dsimp only at k
  refine Assign_Tuple (h hh.here (k.ebind fun v H1 y h1 t1 ads1 led1 e sr ar ex vr k1 => ?_)) (sole_of hc _ _ _) (swap_of hh.here.env.sc hsw)
  cases v with
  | tup vs =>
    dsimp only at k1
    split at k1
    · rename_i hl
      obtain ⟨a, xs, n1, rfl, p1, r1⟩ := vr_tup_inv vr
      have hx := tgs_len hes env
      refine wpAny_assign_Tuple (s := { s with heap := h1, toks := t1 }) hh.here.hd ⟨_, sr.im p1, rfl, _, rfl⟩ (by rw [hx.1, List.size_toArray, ← r1.length]; exact hl.symm) hx.2 fun h' he => ?_
      have sr' := sr.grown fun b o g => he b o (Nat.ne_of_lt (Heap.lt_size g)) g
      exact tgs_go nd hes ((hh.step (tk' := t1) sr ar ex).to (tk' := t1) sr' ar (hh.here.lr.ext ex)) (by simpa using r1) (ZCont.step k1 .refl)
    · exact k1.elim
  | _ => exact k1.elim
inductive BNames (ck : Ck) : List Str → List Nat → Prop where
  | nil : BNames ck [] []
  | cons {x : Str} {i : Nat} {xs : List Str} {is : List Nat} : ck.nm[i]? = some x → ck.sc.names.lookup x = some .local → BNames ck xs is → BNames ck (x :: xs) (i :: is)
theorem BNames.len {ck : Ck} {xs : List Str} {is : List Nat} (h : BNames ck xs is) : xs.length = is.length := by
  induction h with
  | nil => rfl
  | cons _ _ _ ih => simp [ih]
theorem bind_go {S : Sta} {n : Nat} {ck : Ck} (nd : ck.nm.Nodup) : ∀ {xs : List Str} {is : List Nat}, BNames ck xs is → ∀ {A : Around} {stk : List Env} {env : Env} {L : Addr} {mc : Str → Option Value} {led frs : Led} {ads : List Addr} {m : Loc} {H : Hp} {s : Shared} {vs : List V} {ys : List Value} {Q : Unit → Shared → Prop} {E : Value → Shared → Prop},
    HereS S n ck A stk env L mc led frs ads m H s → VRs S.c.hf (Im S.c ads led) ads vs ys → vs.length = is.length → (∀ h' tk' mc', SR S.c L mc' led frs h' → LR S.c ck.nm (setLs m is vs) mc' ads led → Q () { s with heap := h', toks := tk' }) →
    wpAny S.M A (assignInOrder (xs.map fun x => bindName env x) ys) Q E s := by
  intro xs is h
  induction h with
  | nil =>
    intro A stk env L mc led frs ads m H s vs ys Q E hh vr hl k
    have : vs = [] := List.length_eq_zero_iff.mp hl
    subst this
    cases vr
    exact wpAny_pure (k s.heap s.toks mc hh.here.sr hh.here.lr)
  | @cons x i xs is hx1 hx2 r ih =>
    intro A stk env L mc led frs ads m H s vs ys Q E hh vr hl k
    cases vr with
    | nil => cases hl
    | @cons v y vs ys a q =>
      refine wpAny_bind (wpAny_holding (wpAny_bindName (store_go hh.here.env hx2 hh.here.sr fun h' sr' => ?_)))
      exact ih (hh.to (tk' := s.toks + 1) sr' hh.here.ar (hh.here.lr.set nd hx1 .refl a)) q (by simpa using hl) k
theorem VRs.reverse {hf : Str → Int} {P : Addr → Obj → Prop} {ads : List Addr} : ∀ {vs : List V} {xs : List Value}, VRs hf P ads vs xs → VRs hf P ads vs.reverse xs.reverse
  | _, _, .nil => .nil
  | _, _, .cons a r => by
    rw [List.reverse_cons, List.reverse_cons]
    exact (VRs.reverse r).append (.cons a .nil)
theorem x_asgW {es : List Expr} {names : List Str} {is : List Nat} {value : Expr} {kk : Nat} {p pos : Pos} {d : Loc → Hp → Rs V} (nd : ck.nm.Nodup) (hes : BNames ck names.reverse is.reverse) (hc : notComp value = true) (hsw : swapRes ck.sc es value = some (some names)) (h : EvalOK S n ck value d) :
    ExecOK S n ck (.Assign [.Tuple es kk p] value pos) (fun m H => (d m H).q fun v H1 => match v with
      | .tup vs => if vs.length = is.length then .next (setLs m is.reverse vs.reverse) H1 else .stuck
      | _ => .stuck) := by
  intro A stk env L mc led frs ads m H s Qf Ep hh k
  dsimp only at k
  refine Assign_Tuple_swapped (h hh.here (k.ebind fun v H1 y h1 t1 ads1 led1 e sr ar ex vr k1 => ?_)) (sole_of hc _ _ _) (swap_of hh.here.env.sc hsw)
  cases v with
  | tup vs =>
    dsimp only at k1
    split at k1
    · rename_i hl
      obtain ⟨a, xs, n1, rfl, p1, r1⟩ := vr_tup_inv vr
      have hlen : names.length = xs.toArray.size := by
        have := hes.len
        rw [List.length_reverse, List.length_reverse] at this
        rw [this, List.size_toArray, ← r1.length, hl]
      rw [hlen]
      refine unpackItems_tuple (s := { s with heap := h1, toks := t1 }) hh.here.hd (isTup_of (sr.im p1)) fun h' he => ?_
      have sr' := sr.grown fun b o g => he b o (Nat.ne_of_lt (Heap.lt_size g)) g
      refine bind_go nd hes ((hh.step (tk' := t1) sr ar ex).to (tk' := t1) sr' ar (hh.here.lr.ext ex)) (by simpa using r1.reverse) (by simpa using hl) fun h2 t2 mc2 sr2 lr2 => k1 h2 t2 ads1 led1 mc2 sr2 ar .refl lr2
    · exact k1.elim
  | _ => exact k1.elim
end
end
-- A25
section
open PySem PySem.W PyProof.Rows PySem.Calls PySem.SeqAt
section
variable {prog : Program} {w : World} {A : Around} {E : Value → Shared → Prop} {h : Heap} {g : Array GenState} {d : Drawn} {t : Nat} {os : OsState}
variable {nm q : Str} {C N : Addr} {bs bm bmB : List Value} {hdct : Bool} {sn : List Str} {sub : List Value} {ab : Bool} {col : Option Bool} {dd : Option Addr} {k0 k1 k2 k3 k5 : Option Value} {B newId initId : String} {K : Frag}
theorem exc_check_new {M : Model} (F : ExcBaseFacts B newId initId bmB) (hB : bm.contains (.type B) = true) {rest : List Value} {Q : Unit → Shared → Prop} (hC : h.get? C = some (excClassObj nm q C N bs bm hdct sn sub ab col dd k0 k1 k2 k3 k5 newId))
    (hq : Q () ⟨h, g, d, t, os⟩) : wpAny M A (checkBuiltinCall newId ⟨.ref C :: rest, []⟩) Q E ⟨h, g, d, t, os⟩ := by
  have hcont : (Value.ref C :: bm).contains (.type B) = true := by rw [List.contains_cons, hB, Bool.or_true]
  have hstar := F.noStar
  simp only [checkBuiltinCall, F.newKind, F.newSplit, F.newRow]
  repeat (first | refine wpAny_loadPart_at hC ?_ | (refine wpAny_isSubtype_exc hC ?_; rw [hcont]) | refine wpAny_staticBase_exc hC ?_ | refine wpAny_madeBy_exc hC ?_ | simp only [bne_self_eq_false, Bool.false_eq_true, if_false] | wp_step)
  exact hq
theorem exc_new {R : Result → Shared → Prop} (F : ExcBaseFacts B newId initId bmB) (hB : bm.contains (.type B) = true) (hA : bm.contains (.type "AttributeError") = false) (hNm : bm.contains (.type "NameError") = false) {rest : List Value}
    (hC : h.get? C = some (excClassObj nm q C N bs bm hdct sn sub ab col dd k0 k1 k2 k3 k5 newId))
    (hq : R (.ok (.ret (.ref (h.objs.size + 1)))) ⟨(h.push { cls := .type "tuple", data := .seq rest.toArray }).push
      { cls := .ref C, data := .fields #[.ref h.objs.size, .none, .none, .none, .bool false, .none] }, g, d, t, os⟩) (hrest : rest.length ≤ sizeLine) :
    codeAny (model prog w) A (.builtin newId ⟨.ref C :: rest, []⟩) R ⟨h, g, d, t, os⟩ := by
  have hends := F.ends
  have hcB : (Value.ref C :: bm).contains (.type B) = true := by rw [List.contains_cons, hB, Bool.or_true]
  have hcA : (Value.ref C :: bm).contains (.type "AttributeError") = false := by rw [List.contains_cons, hA]; rfl
  have hcN : (Value.ref C :: bm).contains (.type "NameError") = false := by rw [List.contains_cons, hNm]; rfl
  refine codeAny_builtinAt F.entry ?_
  unfold Builtin.«BaseException.__new__»
  refine PySem.wpAt_bind ?_
  show PySem.wpAt _ _ _ (stack >>= _) _ _ _
  refine PySem.wpAt_bind (PySem.wpAt_stack fun p below => PySem.wpAt_of_wpAny ?_)
  wp_walk
  refine PySem.wpAt_of_wpAny ?_
  rw [F.owner]
  repeat (first | with_reducible refine wpAny_madeHere_exc F.canon hC ?_ | with_reducible refine wpAny_loadPart_at hC ?_ | (with_reducible refine wpAny_isSubtype_exc hC ?_; first | rw [hcB] | rw [hcA] | rw [hcN]) | wp_step)
  show R _ _
  rw [Heap.size_push]
  exact hq
theorem exc_made (F : ExcBaseFacts B newId initId bmB) (hB : bm.contains (.type B) = true) (hA : bm.contains (.type "AttributeError") = false) (hNm : bm.contains (.type "NameError") = false) {rest : List Value} {fI : Addr} {Q : Fin → Shared → Prop} (X : K.In h)
    (hC : h.get? C = some (excClassObj nm q C N bs bm hdct sn sub ab col dd k0 k1 k2 k3 k5 newId)) (hi : findIn K (.ref C) "__init__" = some (some (.ref fI))) (hf : isFn K (.ref fI) = true)
    (hq : ∀ h' e, Heap.MadeExcOf h h' e (.ref C) rest →
      wpAny (model prog w) A (call (.ref fI) (.ref e :: rest)) (fun r s' => r = .none ∧ Q (.done (.ret (.ref e))) s') E ⟨h', g, d, t, os⟩) (hrest : rest.length ≤ sizeLine) :
    wpAny (model prog w) A (Builtin.«type.__call__» ⟨.ref C :: rest, []⟩) Q E ⟨h, g, d, t, os⟩ := by
  repeat (first | with_reducible refine wpAny_loadPart_at hC ?_ | with_reducible refine wpAny_madeBy_exc hC ?_ | wp_step)
  refine codeAny_call_builtin_code (Code.quiet_builtin _ F.quiet) (exc_check_new F hB hC ?_)
  refine exc_new F hB hA hNm hC ?_ hrest
  show wpAny _ _ _ _ _ _
  have hC₁ := Heap.get?_push_of_some { cls := .ref C, data := .fields #[.ref h.objs.size, .none, .none, .none, .bool false, .none] }
    (Heap.get?_push_of_some { cls := .type "tuple", data := .seq rest.toArray } hC)
  have hX : K.In ((h.push { cls := .type "tuple", data := .seq rest.toArray }).push { cls := .ref C, data := .fields #[.ref h.objs.size, .none, .none, .none, .bool false, .none] }) := fun a o e => Heap.get?_push_of_some _ (Heap.get?_push_of_some _ (X a o e))
  have hget : ((h.push { cls := .type "tuple", data := .seq rest.toArray }).push
      { cls := .ref C, data := .fields #[.ref h.objs.size, .none, .none, .none, .bool false, .none] }).get? (h.objs.size + 1) = some
      { cls := .ref C, data := .fields #[.ref h.objs.size, .none, .none, .none, .bool false, .none] } := by heap_get
  have hcC : (Value.ref C :: bm).contains (.ref C) = true := by simp
  unfold isInstance
  repeat (first | with_reducible refine wpAny_loadPart_at hget ?_ | (with_reducible refine wpAny_isSubtype_exc hC₁ ?_; rw [hcC]) | wp_step)
  show wpAny _ _ (typeLookup (.ref C) _) _ _ _
  refine (looks_findIn hX hi).here ?_
  refine wpAny_holding (wpAny_bind ((bind_fn hX _ (beq_iff_eq.mp hf)).here ?_))
  refine wpAny_bind (wpAny_mono (hq _ (h.objs.size + 1) ⟨fun b o hb => Heap.get?_push_of_some _ (Heap.get?_push_of_some _ hb), Heap.get?_none_of_le (Nat.le_succ _), h.objs.size, hget, Heap.get?_none_of_le (Nat.le_refl _), ?_⟩) (fun r s' hr => ?_) fun _ _ x => x)
  · exact Heap.get?_push_of_some _ (Heap.get?_push_at rfl rfl)
  · obtain ⟨rfl, hQ⟩ := hr
    wp_walk
    exact hQ
/-- an own exception made: its __init__ found in a class above -/
theorem call_exc (F : ExcBaseFacts B newId initId bmB) (hB : bm.contains (.type B) = true) (hA : bm.contains (.type "AttributeError") = false) (hNm : bm.contains (.type "NameError") = false) {rest : List Value} {fI : Addr} {Q : Value → Shared → Prop} (X : K.In h)
    (hC : h.get? C = some (excClassObj nm q C N bs bm hdct sn sub ab col dd k0 k1 k2 k3 k5 newId)) (hi : findIn K (.ref C) "__init__" = some (some (.ref fI))) (hf : isFn K (.ref fI) = true)
    (hq : ∀ h' e, Heap.MadeExcOf h h' e (.ref C) rest →
      wpAny (model prog w) (A.under (.builtin "type.__call__" ⟨.ref C :: rest, []⟩)) (call (.ref fI) (.ref e :: rest)) (fun r s' => r = .none ∧ Q (.ref e) s') E ⟨h', g, d, t, os⟩) (hrest : rest.length ≤ sizeLine) :
    wpAny (model prog w) A (call (.ref C) rest) Q E ⟨h, g, d, t, os⟩ := by
  have f1 := tc_lookup
  have f2 := tc_bind (.ref C)
  have hT : (⟨h, g, d, t, os⟩ : Shared).TypeIs (.ref C) "type" := ⟨_, hC, rfl⟩
  refine wpAny_call (codeAny_of_tree ?_)
  show wpAny _ _ (callAny (.ref C) _) _ _ _
  repeat (any_goals (first | assumption | with_reducible refine wpAny_loadPart_at hC ?_ | wp_step))
  refine ⟨rfl, ?_⟩
  refine codeAny_call_builtin_at (Code.quiet_builtin _ (by decide +kernel)) entry_typeCall (wpAny_check_type_call_sub hC (exc_made (hrest := hrest) F hB hA hNm X hC hi hf fun h' e hm => ?_))
  exact hq h' e hm
end
end
-- A26
section
open PySem PySem.W PyProof.Rows PySem.Calls PySem.SeqAt Builtin Builtin.ObjectAttr
noncomputable abbrev excMro (C D : Addr) : List Value := [.ref C, .ref D, .type "Exception", .type "BaseException", .type "object"]
section
variable {prog : Program} {w : World} {A : Around} {E : Value → Shared → Prop} {s : Shared} {K : Frag} {C D e : Addr} {oe : Obj} {vs : Array Value} {es : List DictEntry} {n : Nat} {cd : ClassData} {name : Str} {v : Value} {Q : Unit → Shared → Prop}
theorem store_in {de : Addr} {tk : Tok} {Qf : Fin → Shared → Prop} (g : s.heap.get? de = some (dictOf es n)) (hlen : es.length ≤ 100) (hg : (getL name es).isSome = true)
    (hq : ∀ h', Heap.SameBut de s.heap h' → h'.get? de = some (dictOf (putL name (PyData.keyHash w.params name) (.str name s.toks) v es) (putN name es n)) → Qf (.done (.ret .none)) { s with heap := h', toks := s.toks + 1 }) :
    wpAny (model prog w) A (storeInDict de (.str name tk) name v) Qf E s := by
  have D' := Heap.get?_update_self (Obj.putName name (PyData.keyHash w.params name) (.str name s.toks) v) g (by rw [putName_dict]; rfl)
  rw [putName_dict] at D'
  refine wpAny_bind (wpAny_pure (wpAny_bind ?_))
  unfold nsSet
  refine wpAny_bind (wpAny_bind (wpAny_askSetting (wpAny_pure (wpAny_bind (wpAny_mkText (wpAny_bind (wpAny_loadPart g ?_)))))))
  dsimp only
  have c : (!es.toArray.any (·.key.isStr name) && es.toArray.any (·.refKey)) = false := by
    rw [← Array.any_toList, ← Array.any_toList]
    unfold getL at hg
    split at hg
    · rename_i en he
      rw [List.any_eq_true.mpr ⟨en, List.mem_of_find?_eq_some he, List.find?_some he⟩]; rfl
    · split at hg
      · cases hg
      · rename_i z; rw [Bool.not_eq_true] at z; rw [z, Bool.and_false]
  rw [aRefKeyMayBeTheName_at, c]
  refine wpAny_updatePart g ?_
  refine wpAny_bind (wpAny_lookBehind D' (pastItsLine_dict ?_) ?_)
  · have := putL_len name (PyData.keyHash w.params name) (.str name s.toks) v es
    rw [List.size_toArray, sizeLine_eq]; omega
  · exact wpAny_pure (hq _ (Heap.SameBut.update ..) D')
theorem exc_set (X : K.In s.heap) (he : s.heap.get? e = some oe) (hc : oe.cls = .ref C) (hfs : oe.data = .fields vs) (hcd : clsIn K C = some cd) (hmro : cd.mro = excMro C D) (hhas : cd.hasDict = true)
    (hs : findIn K (.ref C) "__setattr__" = some (some (.builtin "object.__setattr__"))) (hn : findIn K (.ref C) name = some none) (hlen : es.length ≤ 100) (hg : (getL name es).isSome = true)
    (hd : (oe.dict = none ∧ es = [] ∧ n = 0) ∨ ∃ de, oe.dict = some de ∧ s.heap.get? de = some (dictOf es n) ∧ de ≠ e)
    (hq : ∀ h' de, (∀ b o, b ≠ e → b ≠ de → s.heap.get? b = some o → h'.get? b = some o) → (oe.dict = some de ∨ (oe.dict = none ∧ s.heap.get? de = none)) → de ≠ e → h'.get? e = some { oe with dict := some de } →
      h'.get? de = some (dictOf (putL name (PyData.keyHash w.params name) (.str name (s.toks + 1)) v es) (putN name es n)) → Q () { s with heap := h', toks := s.toks + 2 }) :
    wpAny (model prog w) A (setAttr (.ref e) name v) Q E s := by
  have hno : notCls oe = true := by unfold notCls; rw [hfs]
  have fin : ∀ (od : Option Obj), W.InstAt s.heap e oe C od → wpAny (model prog w) A (setAttr (.ref e) name v) Q E s := by
    intro od I
    refine set_plain X I hs ?_
    have I' : W.InstAt ({ s with toks := s.toks + 1 } : Shared).heap e oe C od := I
    have SF := PySem.F.store_object
    have ne : cd.mro.isEmpty = false := by rw [hmro]; rfl
    have sub : Looks (model prog w) s.heap (isInstance (.ref e) (.type "object")) true := I.type.andThen (looks_mroIn X (by unfold mroIn; rw [hcd, Option.bind_some, if_neg (by rw [ne]; decide), hmro]; rfl))
    refine codeAny_call_builtin SF.slot.plain SF.entry (@check_slot (model prog w) _ _ { s with toks := s.toks + 1 } "object.__setattr__" "object" "__setattr__" (.ref e) [.str name s.toks, v] [] _ SF.kind SF.split sub (SF.args (.ref e) (.str name s.toks) v) ?_)
    have hm : Looks (model prog w) s.heap (mroOf (.ref C)) cd.mro := (looks_clsIn X hcd).andThen .now
    have L3 : Looks (model prog w) s.heap (storeTaker? none) none := .now
    rw [osa_eq, refuse_eq]
    refine wpAny_bind (wpAny_bind (I'.type.here (wpAny_bind (Looks.here (s := { s with toks := s.toks + 1 }) hm ?_))))
    rw [hmro, refuseLoop_ref, refuseLoop_ref, PySem.F.store_Exception.passes]
    refine wpAny_pure (wpAny_bind (I'.type.here (wpAny_bind (Looks.here (s := { s with toks := s.toks + 1 }) (looks_findIn X hn) (wpAny_bind (Looks.here (s := { s with toks := s.toks + 1 }) L3 ?_))))))
    refine wpAny_bind (wpAny_pure (wpAny_bind (wpAny_bind (wpAny_loadPart (s := { s with toks := s.toks + 1 }) he ?_))))
    rw [hc]
    refine wpAny_bind (Looks.here (s := { s with toks := s.toks + 1 }) (looks_clsIn X hcd) ?_)
    rw [hhas]
    rw [if_neg (by decide)]
    rcases hd with ⟨h1, h2, h3⟩ | ⟨de, h1, h2, h3⟩
    · subst h2 h3
      rw [h1]
      dsimp only
      rw [if_neg (by simp [typeHasDict]), hfs]
      dsimp only
      have hes : e ≠ s.heap.objs.size := Nat.ne_of_lt (Heap.lt_size he)
      have he1 : (s.heap.push { cls := .type "dict", data := .dict #[] }).get? e = some oe := Heap.get?_push_of_some _ he
      refine wpAny_bind (wpAny_alloc (wpAny_bind (wpAny_update he1 ?_)))
      refine wpAny_pure ?_
      have hfr : ({ cls := oe.cls, dict := some s.heap.objs.size, data := oe.data, slots := oe.slots } : Obj).isFreed = false := by rw [hfs]; rfl
      have he2 := Heap.get?_update_self (fun o : Obj => { cls := o.cls, dict := some s.heap.objs.size, data := o.data, slots := o.slots }) he1 hfr
      have hd2 : ((s.heap.push { cls := .type "dict", data := .dict #[] }).update e fun o => { cls := o.cls, dict := some s.heap.objs.size, data := o.data, slots := o.slots }).get? s.heap.objs.size = some (dictOf [] 0) :=
        (Heap.get?_update_other _ _ hes).trans (Heap.get?_push_size _ rfl)
      refine store_in (s := { s with heap := _, toks := s.toks + 1 }) hd2 hlen hg fun h' hs' g' => ?_
      refine hq h' s.heap.objs.size (fun b o hb hb2 g => ?_) (.inr ⟨h1, Heap.get?_none_of_le (Nat.le_refl _)⟩) hes.symm ((hs'.2 e hes).trans he2) g'
      exact (hs'.2 b hb2).trans ((Heap.get?_update_other _ _ (Ne.symm hb)).trans (Heap.get?_push_of_some _ g))
    · rw [h1]
      refine wpAny_pure (store_in (s := { s with toks := s.toks + 1 }) h2 hlen hg fun h' hs' g' => ?_)
      exact hq h' de (fun b o hb hb2 g => (hs'.2 b hb2).trans g) (.inl h1) h3 ((hs'.2 e h3.symm).trans (by rw [he]; obtain ⟨_, _, _, _⟩ := oe; cases h1; rfl)) g'
  rcases hd with ⟨h1, h2, h3⟩ | ⟨de, h1, h2, h3⟩
  · exact fin none ⟨he, hc, hno, by rw [h1]; trivial⟩
  · exact fin (some (dictOf es n)) ⟨he, hc, hno, by rw [h1]; exact h2⟩
end
end
-- A27
section
open PySem PySem.W PyProof.Rows PySem.Calls PySem.SeqAt
section
variable {prog : Program} {w : World} {A : Around} {E : Value → Shared → Prop} {h : Heap} {g : Array GenState} {d : Drawn} {t : Nat} {os : OsState}
variable {nm q : Str} {C N : Addr} {bs bm bmB : List Value} {hdct : Bool} {sn : List Str} {sub : List Value} {ab : Bool} {col : Option Bool} {dd : Option Addr} {k0 k1 k2 k3 k5 : Option Value} {B newId initId nid : String}
theorem exc_check_init (F : ExcBaseFacts B nid initId bmB) (hB : bm.contains (.type B) = true) {M : Model} {e : Addr} {oe : Obj} {rest : List Value} {Q : Unit → Shared → Prop}
    (hC : h.get? C = some (excClassObj nm q C N bs bm hdct sn sub ab col dd k0 k1 k2 k3 k5 newId)) (he : h.get? e = some oe) (hcls : oe.cls = .ref C) (hq : Q () ⟨h, g, d, t, os⟩) :
    wpAny M A (checkBuiltinCall initId ⟨.ref e :: rest, []⟩) Q E ⟨h, g, d, t, os⟩ := by
  have hcB : (Value.ref C :: bm).contains (.type B) = true := by rw [List.contains_cons, hB, Bool.or_true]
  have hshort := F.noStar
  simp only [checkBuiltinCall, F.initKind, F.initSplit, F.initRow]
  repeat (first | (with_reducible refine wpAny_loadPart_at he ?_; rw [hcls]) | with_reducible refine wpAny_loadPart_at hC ?_ | (with_reducible refine wpAny_isSubtype_exc hC ?_; rw [hcB]) | wp_step)
  refine wpAny_onRaise ?_
  rw [show ∀ (a b : String) (n : Nat), Bind.check ⟨.positional, "*", B, .self, [⟨"args", .varPos, false⟩]⟩ a b n (List.map (fun x => x.fst) ({ pos := Value.ref e :: rest } : Args).kw) = pure () from
    fun a b n => check_star_args _ _ _ _ _ _]
  exact wpAny_pure hq
/-- the base's own __init__ called on an exception -/
theorem exc_init (F : ExcBaseFacts B nid initId bmB) (hB : bm.contains (.type B) = true) {e : Addr} {oe : Obj} {vs : Array Value} {rest : List Value} {Q : Value → Shared → Prop}
    (hC : h.get? C = some (excClassObj nm q C N bs bm hdct sn sub ab col dd k0 k1 k2 k3 k5 newId)) (he : h.get? e = some oe) (hcls : oe.cls = .ref C) (hfs : oe.data = .fields vs) {t0 : Addr} (h0 : vs[0]? = some (.ref t0)) (hrest : rest.length ≤ sizeLine)
    (hq : ∀ h' T, (∀ b o, b ≠ e → h.get? b = some o → h'.get? b = some o) → h'.get? e = some { oe with data := .fields (vs.setIfInBounds 0 (.ref T)) } → Q .none ⟨h', g, d, t, os⟩) :
    wpAny (model prog w) A (call (.builtin initId) (.ref e :: rest)) Q E ⟨h, g, d, t, os⟩ := by
  refine wpAny_call (codeAny_call_builtin F.init.plain F.initEntry (exc_check_init F hB hC he hcls ?_))
  have hsz : 0 < vs.size := (Array.getElem?_eq_some_iff.mp h0).1
  show wpAny _ _ (newTuple rest >>= fun v => Builtin.BaseException.bexcPut (.ref e) 0 v >>= fun _ => ret .none) _ _ _
  refine wpAny_bind (wpAny_newObj_type ?_ (by show rest.toArray.size ≤ sizeLine; rw [List.size_toArray]; exact hrest))
  have he1 := Heap.get?_push_of_some { cls := .type "tuple", data := .seq rest.toArray } he
  unfold Builtin.BaseException.bexcPut
  refine wpAny_bind (wpAny_bind (wpAny_field he1 hfs h0 (wpAny_bind (wpAny_setField he1 hfs hsz ?_))))
  refine wpAny_letGo ?_
  refine wpAny_pure (hq _ h.objs.size (fun b o hb g1 => (Heap.get?_update_other _ _ (Ne.symm hb)).trans (Heap.get?_push_of_some _ g1)) ?_)
  refine (Heap.get?_update_self _ he1 (Obj.isFreed_of_fields (Obj.data_mapFields hfs _))).trans ?_
  obtain ⟨oc, od, oda, osl⟩ := oe
  cases hfs
  rfl
end
end
-- A28
section
open PySem PySem.W PyProof.Rows PySem.Calls PySem.SeqAt
noncomputable def initNm : List Str := ["self", "message", "place"]
noncomputable def initFn (a : Addr) : Fn := ⟨a, initNm, 3, [.none], .nil⟩
noncomputable def initBinds (e : Addr) (mv pv : Value) : List (Str × Value) := [("self", .ref e), ("message", mv), ("place", pv)]
noncomputable def initBody (p : Nat → Pos) : List Stmt :=
  [.Expr (.Call (.Attribute (.Name "Exception" (p 0)) "__init__" (p 1)) [.Name "self" (p 2), .Name "message" (p 3)] [] (p 4)) (p 5),
   .Assign [.Attribute (.Name "self" (p 6)) "message" (p 7)] (.Name "message" (p 8)) (p 9),
   .Assign [.Attribute (.Name "self" (p 10)) "place" (p 11)] (.Name "place" (p 12)) (p 13)]
inductive ExcAt (K : Frag) (C : Addr) : Prop where
  | mk (D N : Addr) (nm q : Str) (bs : List Value) (sn : List Str) (sub : List Value) (ab : Bool) (col : Option Bool) (dd : Option Addr) (k0 k1 k2 k3 k5 : Option Value)
    (h : K.lookup C = some (excClassObj nm q C N bs [.ref D, .type "Exception", .type "BaseException", .type "object"] true sn sub ab col dd k0 k1 k2 k3 k5 "Exception.__new__")) : ExcAt K C
/-- the program's own exception class -/
structure WErr (S : Sta) (eI : Nat) (fI : Addr) (fd : FuncData) : Prop where
  obj : ExcAt S.c.K S.WE
  init : findIn S.c.K (.ref S.WE) "__init__" = some (some (.ref fI))
  isf : isFn S.c.K (.ref fI) = true
  set : findIn S.c.K (.ref S.WE) "__setattr__" = some (some (.builtin "object.__setattr__"))
  ga : findIn S.c.K (.ref S.WE) "__getattribute__" = some (some (.builtin "BaseException.__getattribute__"))
  gn : findIn S.c.K (.ref S.WE) "__getattr__" = some none
  noM : findIn S.c.K (.ref S.WE) "message" = some none
  noP : findIn S.c.K (.ref S.WE) "place" = some none
  fn : ∃ p ds, FnOk S eI (initFn fI) fd (initBody p) ds ∧ ((p 1).endLine == (p 4).line) = true
  nmE : fd.scope.names.lookup ("Exception" : Str) = some .globalImplicit
  mgE : S.c.mg "Exception" = none
  mbE : S.c.mb "Exception" = some (.type "Exception")
  meth : findCls S.c.K (.type "Exception") (.type "type") "__init__" = some (.val (.builtin "Exception.__init__"))
section
variable {c : Cx} {L : Addr} {mc : Str → Option Value} {led frs : Led} {h h' : Heap}
theorem SR.unused (x : SR c L mc led frs h) {e : Addr} (hn : h.get? e = none) : c.base.get? e = none ∧ e ≠ L ∧ e ∉ (led ++ frs).map (·.1) := by
  refine ⟨?_, fun q => ?_, fun hm => ?_⟩
  · cases hq : c.base.get? e with
    | none => rfl
    | some o => rw [x.fr.keep _ _ hq] at hn; cases hn
  · obtain ⟨o, _, _, g, _⟩ := x.fr.ns
    rw [q, g] at hn; cases hn
  · obtain ⟨p, hp, rfl⟩ := List.mem_map.mp hm
    rw [(x.nw p hp).1] at hn; cases hn
/-- a new object is taken in -/
theorem SR.adopt {e : Addr} {oe : Obj} (x : SR c L mc led frs h) (hb : c.base.get? e = none) (hL : e ≠ L) (hk : e ∉ (led ++ frs).map (·.1)) (g : h.get? e = some oe) : SR c L mc ((e, oe) :: led) frs h :=
  ⟨x.fr, fun p hp => by
    rw [List.cons_append] at hp
    rcases List.mem_cons.mp hp with rfl | hp
    · exact ⟨g, hL, hb⟩
    · exact x.nw p hp, by
    rw [List.cons_append, List.map_cons, List.nodup_cons]
    exact ⟨hk, x.nd⟩⟩
end
noncomputable abbrev excObj (C T : Addr) (dx : Option Addr) : Obj := { cls := .ref C, dict := dx, data := .fields #[.ref T, .none, .none, .none, .bool false, .none] }
section
variable {S : Sta} {eI : Nat} {fI : Addr} {fd : FuncData}
theorem init_call (cok : S.c.Ok) (we : WErr S eI fI fd) {A : Around} {stk : List Env} {L e T : Addr} {mc : Str → Option Value} {led frs : Led} {ads : List Addr} {H : Hp} {s : Shared} {Qp Ep : Value → Shared → Prop} {mv pv : Value}
    (sr : SR S.c L mc led ((e, excObj S.WE T .none) :: frs) s.heap) (ar : AR S.c ads H led) (hfr : A.frames = some stk) (hst : StkOk L frs stk) (hh : A.handled = none) (hdep : A.depth + 11 < recursionLimit) (hun : A.units + 103 < cLine)
    (hq : ∀ h' tk' de es n T', SR S.c L mc ((de, dictOf es n) :: led) frs h' → h'.get? e = some (excObj S.WE T' (some de)) → getL "place" es = some (some pv) → S.c.base.get? e = none → e ≠ L → e ∉ (led ++ frs).map (·.1) → de ≠ e → Qp .none { s with heap := h', toks := tk' }) :
    wpAny S.M A (call (.ref fI) [.ref e, mv, pv]) Qp Ep s := by
  obtain ⟨p, ds, ok, hpos⟩ := we.fn
  obtain ⟨D, N, nm, q, bs, sn, sub, ab, col, dd, k0, k1, k2, k3, k5, hK⟩ := we.obj
  obtain ⟨o, o1, o2⟩ := ok.obj
  obtain ⟨cc, oc, cvs, ct, c1, c2, c3, c4⟩ := ok.code
  have X := sr.kin cok
  have hlim : s.heap.NoLimit := by
    obtain ⟨mcc, q1, q2⟩ := cok.nolim
    exact ⟨mcc, q1.keeps sr.fr.keep, q2⟩
  have hlds : ds.length = 1 := by have := ok.dfl.length; simpa [initFn] using this.symm
  have hbind := ok.binds s [.ref e, mv, pv] X (by simp [initFn]) (by simp [initFn])
  have hb2 : ((initFn fI).nm.take (initFn fI).np).zip ([.ref e, mv, pv] ++ ds.drop (ds.length + [Value.ref e, mv, pv].length - (initFn fI).np)) = initBinds e mv pv := by
    rw [hlds]; rfl
  rw [hb2] at hbind
  refine wpAny_call (codeAny_call_def (by omega) (in_get X o1) o2 hlim ⟨cc, oc, cvs, ct, c1, in_get X c2, c3, c4⟩ ok.bod hbind ok.cell ?_ (fun h₀ hns hkeep => ?_) ok.co ok.gen ok.kind)
  · intro x hx
    refine ok.par x.1 ?_
    show x.1 ∈ initNm.take 3
    rcases List.mem_cons.mp hx with rfl | hx
    · simp [initNm]
    rcases List.mem_cons.mp hx with rfl | hx
    · simp [initNm]
    · rw [List.mem_singleton.mp hx]; simp [initNm]
  · obtain ⟨oL, gL, held⟩ := sr.held
    have sr0 := sr.enter gL hns hkeep (Nat.le_refl _)
    have hfr' : (A.deeper (callEnv fd s.heap.objs.size fI)).frames = some (callEnv fd s.heap.objs.size fI :: stk) := Around.frames_deeper hfr
    have hst' : ∀ oe : Obj, StkOk s.heap.objs.size ((L, oL) :: (e, oe) :: frs) (callEnv fd s.heap.objs.size fI :: stk) := by
      intro oe e' he'
      rcases List.mem_cons.mp he' with rfl | he'
      · refine ⟨?_, s.heap.objs.size, rfl, .inl rfl⟩
        show fd.scope.kind ≠ .module
        rw [ok.kind]; exact fun h => nomatch h
      · obtain ⟨q1, L', q2, q3⟩ := hst e' he'
        refine ⟨q1, L', q2, .inr ?_⟩
        rcases q3 with rfl | ⟨o, q3, q4⟩
        · obtain ⟨⟨es, ep, d', _⟩, _⟩ := held
          exact ⟨oL, List.mem_cons_self, es, ep, d'⟩
        · exact ⟨o, List.mem_cons_of_mem _ (List.mem_cons_of_mem _ q3), q4⟩
    have nd : initNm.Nodup := ok.nd
    have k1 : fd.scope.names.lookup ("self" : Str) = some .local := ok.par "self" (by simp [initFn, initNm])
    have k2' : fd.scope.names.lookup ("message" : Str) = some .local := ok.par "message" (by simp [initFn, initNm])
    have k3' : fd.scope.names.lookup ("place" : Str) = some .local := ok.par "place" (by simp [initFn, initNm])
    have lr : LR S.c initNm [some (.glob (.ref e)), some (.glob mv), some (.glob pv)] (fun x => (initBinds e mv pv).reverse.lookup x) ads led := by
      intro i v hi
      match i, hi with
      | 0, hi => simp at hi; subst hi; exact ⟨_, _, rfl, rfl, .glob _⟩
      | 1, hi => simp at hi; subst hi; exact ⟨_, _, rfl, rfl, .glob _⟩
      | 2, hi => simp at hi; subst hi; exact ⟨_, _, rfl, rfl, .glob _⟩
      | i + 3, hi => simp at hi
    have here : ∀ {oe : Obj} {led1 : Led} {hp : Heap} {tk : Nat}, SR S.c s.heap.objs.size (fun x => (initBinds e mv pv).reverse.lookup x) led1 ((L, oL) :: (e, oe) :: frs) hp → AR S.c ads H led1 → Ext S.c ads led ads led1 →
        Here S 0 ⟨fd.scope, initNm, false, false⟩ (A.deeper (callEnv fd s.heap.objs.size fI)) (callEnv fd s.heap.objs.size fI :: stk) (callEnv fd s.heap.objs.size fI) s.heap.objs.size _ led1 ((L, oL) :: (e, oe) :: frs) ads [some (.glob (.ref e)), some (.glob mv), some (.glob pv)] H { s with heap := hp, toks := tk } :=
      fun sr1 ar1 ex1 => ⟨⟨rfl, ok.kind, rfl, ok.gl, ok.bl⟩, sr1, ar1, lr.ext ex1, hfr', hst' _, hh, by show A.depth + 1 + 3 * 0 + 10 < _; omega, by show A.units + 3 + 40 * 0 + 100 < _; omega, fun h => nomatch h⟩
    have name : ∀ {i : Nat} {x : Str} {v : Value} {oe : Obj} {led1 : Led} {hp : Heap} {tk : Nat} {Q' E' : Value → Shared → Prop} {pp : Pos}, initNm[i]? = some x → fd.scope.names.lookup x = some .local → (x == ("__debug__" : Str)) = false → ([some (.glob (.ref e)), some (.glob mv), some (.glob pv)] : Loc)[i]? = some (some (.glob v)) →
        SR S.c s.heap.objs.size (fun x => (initBinds e mv pv).reverse.lookup x) led1 ((L, oL) :: (e, oe) :: frs) hp → AR S.c ads H led1 → Ext S.c ads led ads led1 →
        (∀ tk', Q' v { s with heap := hp, toks := tk' }) → wpAny S.M (A.deeper (callEnv fd s.heap.objs.size fI)) (eval (.Name x pp) (callEnv fd s.heap.objs.size fI)) Q' E' { s with heap := hp, toks := tk } := by
      intro i x v oe led1 hp tk Q' E' pp hx hk hd hm sr1 ar1 ex1 q
      refine wpAny_Name (wpAny_loadName_local ok.kind hk sr1.fr.ns ?_ (q tk)) hd
      obtain ⟨x', y, h1, h2, h3⟩ := lr i _ hm
      rw [hx] at h1; cases h1
      cases h3
      exact h2
    have hX : ∀ {led1 frs1 : Led} {hp : Heap}, SR S.c s.heap.objs.size (fun x => (initBinds e mv pv).reverse.lookup x) led1 frs1 hp → S.c.K.In hp := fun sr1 => sr1.kin cok
    have hcd : clsIn S.c.K S.WE = some { name := nm, bases := bs, mro := .ref S.WE :: [.ref D, .type "Exception", .type "BaseException", .type "object"], ns := N, qualname := q, hasDict := true, slotNames := sn, subclasses := sub, abstract := ab, collection := col } := by
      unfold clsIn; rw [hK]
    -- the base's __init__
    refine wpAny_execs_cons (wpAny_Expr_any ?_ (by unfold interactive; show (fd.scope.kind == _ && _) = false; rw [ok.kind]; rfl) rfl)
    refine call_m rfl rfl (by simp) hpos ?_
    refine Name_function_global ok.kind we.nmE (loadGlobal_builtin (by show Heap.Ns _ fd.globals _; rw [ok.gl]; exact cok.g.keeps sr0.fr.keep) we.mgE (by show Heap.Ns _ fd.builtins _; rw [ok.bl]; exact cok.b.keeps sr0.fr.keep) we.mbE ?_) (by decide)
    intro pl
    refine method_type sr0.fr cok.kin (by kernel_rfl) (by decide +kernel) we.meth rfl ?_
    refine PyProof.Rows.callWith_builtin1 (two_args rfl rfl (name (i := 0) rfl k1 (by decide) rfl sr0 ar .refl fun t1 => name (i := 1) rfl k2' (by decide) rfl sr0 ar .refl fun t2 => ?_)) rfl rfl
    have chg : ∀ {oe oe' : Obj} {led1 : Led} {hp hp' : Heap}, SR S.c s.heap.objs.size (fun x => (initBinds e mv pv).reverse.lookup x) led1 ((L, oL) :: (e, oe) :: frs) hp → (∀ b q, b ≠ e → hp.get? b = some q → hp'.get? b = some q) → hp'.get? e = some oe' →
        SR S.c s.heap.objs.size (fun x => (initBinds e mv pv).reverse.lookup x) led1 ((L, oL) :: (e, oe') :: frs) hp' :=
      fun sr1 kk gg => ((sr1.perm (List.Perm.swap _ _ _)).change kk gg).perm (List.Perm.swap _ _ _)
    have gE : ∀ {oe : Obj} {led1 : Led} {hp : Heap}, SR S.c s.heap.objs.size (fun x => (initBinds e mv pv).reverse.lookup x) led1 ((L, oL) :: (e, oe) :: frs) hp → hp.get? e = some oe :=
      fun sr1 => (sr1.nw _ (List.mem_append_right _ (List.mem_cons_of_mem _ List.mem_cons_self))).1
    refine exc_init PySem.F.excBase_Exception (by rfl) (hX sr0 _ _ hK) (gE sr0) rfl rfl rfl (by show 1 ≤ sizeLine; rw [sizeLine_eq]; decide) fun h1 T1 kp1 ge1 => ?_
    have sr1 := chg (oe' := excObj S.WE T1 none) sr0 kp1 ge1
    -- the two fields
    refine wpAny_execs_cons (wpAny_Assign_stores (name (i := 1) rfl k2' (by decide) rfl sr1 ar .refl fun t3 => ?_) (sole_of rfl _ _ _) rfl)
    show wpAny S.M _ (assign (.Attribute (.Name "self" (p 6)) "message" (p 7)) _ mv) _ _ _
    rw [arm_assign_Attribute]
    refine wpAny_bind (wpAny_holding (name (i := 0) rfl k1 (by decide) rfl sr1 ar .refl fun t4 => wpAny_bind (wpAny_standAt (wpAny_bind (wpAny_holding ?_)))))
    refine exc_set (es := []) (n := 0) (hX sr1) (gE sr1) rfl rfl hcd rfl rfl we.set we.noM (by simp) rfl (.inl ⟨rfl, rfl, rfl⟩) fun h2 de kp2 hde hne ge2 gd2 => wpAny_release ?_
    have hdn : h1.get? de = none := by
      rcases hde with q | ⟨_, q⟩
      · cases q
      · exact q
    obtain ⟨f1, f2, f3⟩ := sr1.unused hdn
    have sr2 := (chg (oe' := excObj S.WE T1 (some de)) sr1 (fun b q hb g => kp2 b q hb (fun e' => by rw [e', hdn] at g; cases g) g) ge2).adopt f1 f2 (by simpa using f3) gd2
    refine wpAny_execs_cons (wpAny_Assign_stores (name (i := 2) rfl k3' (by decide) rfl sr2 ar.new ext_new fun t5 => ?_) (sole_of rfl _ _ _) rfl)
    show wpAny S.M _ (assign (.Attribute (.Name "self" (p 10)) "place" (p 11)) _ pv) _ _ _
    rw [arm_assign_Attribute]
    refine wpAny_bind (wpAny_holding (name (i := 0) rfl k1 (by decide) rfl sr2 ar.new ext_new fun t6 => wpAny_bind (wpAny_standAt (wpAny_bind (wpAny_holding ?_)))))
    refine exc_set (hX sr2) (gE sr2) rfl rfl hcd rfl rfl we.set we.noP (by simp [putL]) (by rfl) (.inr ⟨de, rfl, sr2.get List.mem_cons_self, hne⟩) fun h3 de' kp3 hde' hne' ge3 gd3 => wpAny_release (wpAny_execs_nil ?_)
    have hdd : de' = de := by
      rcases hde' with q | ⟨q, _⟩
      · cases q; rfl
      · cases q
    subst hdd
    have sr3 := (((sr2.toFrs.change (o' := dictOf _ _) (fun b q hb g => ?_) gd3).perm (List.Perm.trans (List.Perm.swap _ _ _) (List.Perm.cons _ (List.Perm.swap _ _ _)))))
    · have sr4 := sr3.leave held (Heap.SameBut.refl _ _)
      have ke := sr4.keyHead
      have oe := sr4.nw (e, _) (List.mem_append_right _ List.mem_cons_self)
      refine hq h3 _ de' _ _ T1 sr4.drop.toLed ge3 ?_ oe.2.2 oe.2.1 ?_ hne
      · skip
        rfl
      · rw [List.map_append, List.mem_append]
        rintro (hm | hm)
        · exact ke.1 hm
        · exact ke.2 (List.mem_cons_of_mem _ hm)
    · by_cases hbe : b = e
      · rw [hbe, gE sr2] at g; cases g; rw [hbe]; exact ge3
      · exact kp3 b q hbe hb g
end
end
-- A29
section
open PySem PySem.W PyProof.Rows PySem.Calls PySem.SeqAt
section
variable {M : Model} {A : Around} {E : Value → Shared → Prop} {env : Env}
variable {nm q : Str} {C N : Addr} {bs bm : List Value} {hdct : Bool} {sn : List Str} {sub : List Value} {ab : Bool} {col : Option Bool} {dd : Option Addr} {k0 k1 k2 k3 k5 : Option Value} {newId : String}
theorem raise_made {s : Shared} {x : Sem Value} {Q : Flow → Shared → Prop} (hbase : bm.contains (.type "BaseException") = true) (hh : A.handled = none)
    (h : wpAny M A x (fun v s₁ => ∃ e t de, v = .ref e ∧ s₁.heap.get? C = some (excClassObj nm q C N bs bm hdct sn sub ab col dd k0 k1 k2 k3 k5 newId) ∧
      s₁.heap.get? e = some (excObj C t (some de)) ∧ E (.ref e) s₁) E s) :
    wpAny M A (raiseStmt env (some x) none) Q E s := by
  have hcB : (Value.ref C :: bm).contains (.type "BaseException") = true := by rw [List.contains_cons, hbase, Bool.or_true]
  unfold raiseStmt
  refine wpAny_bind (wpAny_mono h (fun v s₁ h₁ => ?_) fun _ _ x => x)
  obtain ⟨e, t, de, rfl, hC, he, hE⟩ := h₁
  obtain ⟨hp, g, d, tk, os⟩ := s₁
  repeat (first | with_reducible refine wpAny_loadPart_at he ?_ | with_reducible refine wpAny_loadPart_at hC ?_ | (with_reducible refine wpAny_isSubtype_exc hC ?_; rw [hcB]) | wp_step)
  exact wpAny_raiseNew_none hh hE
end
section
variable {S : Sta} {eI : Nat} {fI : Addr} {fd : FuncData} {n : Nat} {ck : Ck}
theorem x_raise {x : Str} {a b : Expr} {np cpos pos : Pos} {da db : Loc → Hp → Rs V} (cok : S.c.Ok) (we : WErr S eI fI fd) (nm : ck.sc.names.lookup x = some .globalImplicit) (nd : (x == ("__debug__" : Str)) = false) (g : S.c.mg x = some (.ref S.WE))
    (kp : keepIn S.c.K (.ref S.WE) = true) (hn : 1 ≤ n) (ha : EvalOK S n ck a da) (hb : EvalOK S n ck b db) (hsa : notStar a = true) (hsb : notStar b = true) :
    ExecOK S n ck (.Raise (some (.Call (.Name x np) [a, b] [] cpos)) none pos) (fun m H => (da m H).q fun _ H1 => (db m H1).q fun p H2 => .exc p H2) := by
  intro A stk env L mc led frs ads m H s Qf Ep hh k
  dsimp only at k
  obtain ⟨D, N, nm', q, bs, sn, sub, ab, col, dd, k0, k1, k2, k3, k5, hK⟩ := we.obj
  rw [arm_exec_Raise]
  refine wpAny_bind (wpAny_standAt (raise_made (nm := nm') (q := q) (C := S.WE) (N := N) (bs := bs) (bm := [.ref D, .type "Exception", .type "BaseException", .type "object"]) (hdct := true) (sn := sn) (sub := sub) (ab := ab) (col := col) (dd := dd) (k0 := k0) (k1 := k1) (k2 := k2) (k3 := k3) (k5 := k5) (newId := "Exception.__new__") (by rfl) hh.here.hd ?_))
  refine wpAny_bind (wpAny_mono (Call_ (named cok hh.here nm nd g ?_) : wpAny S.M A _ (fun v s₁ => ∃ e t de, v = .ref e ∧ s₁.heap.get? S.WE = some (excClassObj nm' q S.WE N bs [.ref D, .type "Exception", .type "BaseException", .type "object"] true sn sub ab col dd k0 k1 k2 k3 k5 "Exception.__new__") ∧
      s₁.heap.get? e = some (excObj S.WE t (some de)) ∧ Ep (.ref e) s₁) Ep s) (fun v s₁ q => wpAny_bind (wpAny_standAt (wpAny_pure q))) fun _ _ z => z)
  refine callWith_K cok.kin kp (two_args hsa hsb (ha hh.here (k.ebind fun v H1 y h1 t1 ads1 led1 e1 sr ar ex vr k1 => hb (hh.here.step sr ar ex) (k1.ebind fun pv H2 y2 h2 t2 ads2 led2 e2 sr2 ar2 ex2 vr2 k2 => ⟨sr2.kin cok, ?_⟩)))) (star_of hsa env) (noStar (by rw [List.all_cons, hsb]; rfl) env)
  show wpAny S.M A (call (.ref S.WE) [y, y2]) _ _ _
  have hKx := sr2.kin cok _ _ hK
  refine call_exc (h := h2) PySem.F.excBase_Exception (by rfl) (by rfl) (by rfl) (sr2.kin cok) hKx we.init we.isf (fun h3 e m3 => ?_) (by show 2 ≤ sizeLine; rw [sizeLine_eq]; decide)
  obtain ⟨T, ge, _, _⟩ := m3.there
  have sr3 := sr2.grown m3.keeps
  obtain ⟨u1, u2, u3⟩ := sr2.unused m3.new
  have sr4 : SR S.c L mc led2 ((e, excObj S.WE T none) :: frs) h3 := (sr3.adopt u1 u2 u3 ge).toFrs
  refine init_call (s := { s with heap := h3, toks := t2 }) cok we sr4 ar2 hh.here.fra hh.here.stk hh.here.hd ?_ ?_ fun h4 t4 de es n4 T4 sr5 ge4 gp hbe hLe hke hne => ⟨rfl, e, T4, de, rfl, sr5.kin cok _ _ hK, ge4, ?_⟩
  · have := hh.here.room
    have := weight_new S.WE [y, y2]
    show A.depth + _ + 11 < _
    omega
  · have := hh.here.units
    show A.units + 1 + 103 < _
    omega
  · have hdk := sr5.toFrs.keyHead
    refine k2 e h4 t4 ads2 _ frs mc (.refl _) sr5 ar2.new ext_new ⟨⟨_, _, de, es, n4, y2, ge4, rfl, rfl, rfl, .inl rfl, List.mem_cons_self, ar2.notin hdk.1, gp, (ext_new (c := S.c)).vr vr2⟩, hLe, ?_, hbe⟩
    rw [List.cons_append, List.map_cons]
    intro hm
    rcases List.mem_cons.mp hm with q | q
    · exact hne q.symm
    · exact hke q
end
end
-- A30
section
open PySem PySem.W PyProof.Rows PySem.Calls PySem.SeqAt Builtin Builtin.ObjectAttr
section
variable {prog : Program} {w : World} {A : Around} {E : Value → Shared → Prop} {h : Heap} {g : Array GenState} {d : Drawn} {t : Nat} {os : OsState} {K : Frag} {C e : Addr} {oe : Obj} {od : Option Obj} {name : Str} {v : Value} {cd : ClassData}
theorem exc_ga_entry {tk : Tok} {Q : Fin → Shared → Prop} (X : K.In h) (I : W.InstAt h e oe C od) (hf : findObj K C od name = some (.value v)) (hq : Q (.done (.ret v)) ⟨h, g, d, t, os⟩) :
    wpAny (model prog w) A (Builtin.«object.__getattribute__» ⟨[.ref e, .str name tk], []⟩) Q E ⟨h, g, d, t, os⟩ := by
  have L0 := I.type (M := model prog w)
  have L1 := looks_find (M := model prog w) X I hf
  show wpAny _ _ (typeOf (.ref e) >>= fun tp => find (.ref e) tp name >>= _) _ _ _
  refine wpAny_bind (L0.here (wpAny_bind (Looks.here (s := ⟨h, g, d, t, os⟩) L1 ?_)))
  exact wpAny_pure hq
theorem exc_get {expr : Bool} {Q : Value → Shared → Prop} (X : K.In h) (I : W.InstAt h e oe C od) (hf : findObj K C od name = some (.value v)) (hh : handedIn v = true) (hcd : clsIn K C = some cd) (hbx : cd.mro.contains (.type "BaseException") = true) (hne : cd.mro.isEmpty = false)
    (hga : findIn K (.ref C) "__getattribute__" = some (some (.builtin "BaseException.__getattribute__"))) (hgn : findIn K (.ref C) "__getattr__" = some none) (hq : Q v ⟨h, g, d, t + 1, os⟩) :
    wpAny (model prog w) A (getAttr (.ref e) name expr) Q E ⟨h, g, d, t, os⟩ := by
  have L0 := I.type (M := model prog w)
  have L1 := looks_findIn (M := model prog w) X hga
  have L2 := looks_findIn (M := model prog w) X hgn
  unfold getAttr getAttrBy
  refine wpAny_bind (wpAny_mkText (wpAny_holding (wpAny_bind (L0.at (wpAny_bind (L1.at ?_))))))
  show wpAny _ _ (getAttrByItsOwn _ _ _ _ _ _) _ _ _
  have f3 := PySem.F.attrBase_Exception.ga.bind (.ref e)
  have hx0 : (expr && onTheHeap (Value.builtin "BaseException.__getattribute__")) = false := by cases expr <;> rfl
  have hsub : Looks (model prog w) h (isInstance (.ref e) (.type "BaseException")) true := L0.andThen (looks_mroIn X (by unfold mroIn; rw [hcd, Option.bind_some, if_neg (by rw [hne]; decide), hbx]))
  have ck : ∀ {A' : Around} {E' : Value → Shared → Prop} {tk : Tok} {Q' : Unit → Shared → Prop}, Q' () ⟨h, g, d, t + 1, os⟩ → wpAny (model prog w) A' (checkBuiltinCall "BaseException.__getattribute__" ⟨[.ref e, .str name tk], []⟩) Q' E' ⟨h, g, d, t + 1, os⟩ :=
    fun q => @check_slot (model prog w) _ _ ⟨h, g, d, t + 1, os⟩ "BaseException.__getattribute__" "BaseException" "__getattribute__" (.ref e) [.str name _] [] _ (by decide +kernel) (by decide +kernel) hsub (PySem.F.args_bexc_ga (.ref e) (.str name _)) q
  have call : ∀ {A' : Around} {E' : Value → Shared → Prop} {tk : Tok} {Q' : Value → Shared → Prop}, Q' v ⟨h, g, d, t + 1, os⟩ → wpAny (model prog w) A' (PySem.call (.builtin "BaseException.__getattribute__") [.ref e, .str name tk]) Q' E' ⟨h, g, d, t + 1, os⟩ :=
    fun q => wpAny_call (codeAny_call_builtin PySem.F.attrBase_Exception.ga.plain PySem.F.entry_bexc_ga (ck (exc_ga_entry X I hf q)))
  unfold getAttrByItsOwn hookBefore callGetattribute
  rw [hx0, if_pos (show onTheHeap (.ref C) = true from rfl)]
  refine wpAny_bind (L2.at (wpAny_bind (wpAny_attempt (wpAny_holding ?_))))
  rw [if_neg (by decide)]
  unfold boundAndCalled
  rw [f3]
  refine wpAny_bind (wpAny_pure ?_)
  refine call ?_
  show wpAny _ _ (handedOut v) _ _ _
  rw [handedOut_of hh]; exact wpAny_pure hq
end
end
-- A31
section
open PySem PySem.W PyProof.Rows PySem.Calls PySem.SeqAt
section
variable {S : Sta} {eI : Nat} {fI : Addr} {fd : FuncData} {n : Nat} {ck : Ck}
/-- an attribute of an exception of ours -/
theorem flies_get (cok : S.c.Ok) (we : WErr S eI fI fd) {A : Around} {L e : Addr} {mc : Str → Option Value} {led frs : Led} {ads : List Addr} {s : Shared} {X : Array Value → Prop} {Q E : Value → Shared → Prop} {p : V} {expr : Bool}
    (sr : SR S.c L mc led frs s.heap) (fl : FliesG S L ads led frs s.heap p e X) (hng : noGlob p = true) (hq : ∀ pv, VR S.c.hf (Im S.c ads led) ads p pv → Q pv { s with toks := s.toks + 1 }) : wpAny S.M A (getAttr (.ref e) "place" expr) Q E s := by
  obtain ⟨D, N, nm', q, bs, sn, sub, ab, col, dd, k0, k1, k2, k3, k5, hK⟩ := we.obj
  obtain ⟨⟨oc, od, oda, osl⟩, vs, de, es, n', pv, g1, g2, g3, g4, g5, g6, g7, g8, g9⟩ := fl.obj
  cases g2; cases g3; cases g4
  have hcd : clsIn S.c.K S.WE = some { name := nm', bases := bs, mro := .ref S.WE :: [.ref D, .type "Exception", .type "BaseException", .type "object"], ns := N, qualname := q, hasDict := true, slotNames := sn, subclasses := sub, abstract := ab, collection := col } := by
    unfold clsIn; rw [hK]
  have X := sr.kin cok
  have I : W.InstAt s.heap e ⟨.ref S.WE, some de, .fields vs, osl⟩ S.WE (some (dictOf es n')) := ⟨g1, rfl, rfl, sr.get g6⟩
  obtain ⟨hp, g, d, t, os⟩ := s
  refine exc_get X I (v := pv) ?_ (g9.handed hng) hcd (by rfl) rfl we.ga we.gn (hq pv g9)
  exact findObj_own (attr := none) (by unfold hasDictIn; rw [hcd]; rfl) we.noP rfl g8
theorem x_try {e : Expr} {x nm : Str} {np rp vp ap rp2 hp pos : Pos} {i : Nat} {d : Loc → Hp → Rs V} (cok : S.c.Ok) (we : WErr S eI fI fd) (hsoft : ck.soft = true) (nmx : ck.sc.names.lookup x = some .globalImplicit) (ndx : (x == ("__debug__" : Str)) = false) (g : S.c.mg x = some (.ref S.WE))
    (hi : ck.nm[i]? = some nm) (hl : ck.sc.names.lookup nm = some .local) (ndn : (nm == ("__debug__" : Str)) = false) (nd : ck.nm.Nodup) (h : EvalOK S n ck e d) :
    ExecOK S n ck (.Try [.Return (some e) rp] [.ExceptHandler (some (.Name x np)) (some nm) [.Return (some (.Attribute (.Name nm vp) "place" ap)) rp2] hp] [] [] pos) (fun m H => match d m H with
      | .ok v H1 => .ret v H1
      | .exc p H1 => if noGlob p then .ret p H1 else .stuck
      | .stuck => .stuck) := by
  intro A stk env L mc led frs ads m H s Qf Ep hh k
  dsimp only at k
  refine wpAny_Try_except (wpAny_execs_cons (wpAny_Return_some (h hh.here ?_)))
  cases hd : d m H with
  | ok v H1 =>
    rw [hd] at k
    exact fun x h' tk' ads' led' sr ar ex vr => k x h' tk' ads' led' mc frs (.inl rfl) sr ar ex vr
  | stuck => rw [hd] at k; exact k
  | exc p H1 =>
    rw [hd] at k
    dsimp only at k
    split at k
    case isFalse => exact k.elim
    rename_i hng
    intro e1 h1 t1 ads1 led1 frs1 u1 sr1 ar1 ex1 fl1
    obtain ⟨outer, rfl⟩ := hh.tops
    have hst := hh.here.stk
    have hek : env.kindOf x = some .globalImplicit := by show env.scope.names.lookup x = _; rw [hh.here.env.sc]; exact nmx
    have hnk : env.kindOf nm = some .local := by show env.scope.names.lookup nm = _; rw [hh.here.env.sc]; exact hl
    refine note_go (s := { s with heap := h1, toks := t1 }) hh.here.fra hh.fr (stk_up hst u1) sr1 fl1.up fun h2 frs2 u2 sr2 n2 => ?_
    have hst2 := stk_up hst (u1.trans u2)
    refine flight_go (s := { s with heap := h2, toks := t1 }) (fo := none) hst2 sr2 n2 fun h3 sr3 n3 => ?_
    obtain ⟨D, N, nm', q, bs, sn, sub, ab, col, dd, k0, k1, k2, k3, k5, hK⟩ := we.obj
    have hge := n3.obj
    obtain ⟨oe, vs, de, es, n', pv, g1, g2, _⟩ := hge
    refine wpAny_handleBy_cons (codeAny_handlers_test (Name_function_global (by rw [hh.here.env.sc]; exact hh.here.env.kind) hek (loadGlobal_global (by rw [hh.here.env.gl]; exact cok.g.keeps sr3.fr.keep) g ?_) ndx)) (by intro q; cases q)
    refine wpAny_excMatches_sub_self (h := h3) (sr3.kin cok _ _ hK) g1 g2 (by rfl) ?_
    refine codeAny_handlers_suite_as ?_
    refine flight_go (s := { s with heap := h3, toks := t1 }) (fo := none) hst2 sr3 n3 fun h4 sr4 n4 => ?_
    refine wpAny_storeName_local (s := { s with heap := h4, toks := t1 }) (m := mc) hnk (by rw [hh.here.env.loc]; exact sr4.fr.ns) (fun h5 hn5 hs5 => ?_) (by rw [hh.here.env.sc, hh.here.env.kind]; rfl)
    rw [hh.here.env.loc] at hn5 hs5
    have sr5 := sr4.store hn5 hs5
    have n5 : FliesG S L ads1 led1 frs2 h5 p e1 (fun _ => True) := by
      obtain ⟨oe, vs, de, es, n', pv, q1, q2, q3, q4, _, q5⟩ := n4.obj
      exact ⟨⟨oe, vs, de, es, n', pv, (hs5.2 e1 n4.notL).trans q1, q2, q3, q4, trivial, q5⟩, n4.notL, n4.off, n4.new⟩
    refine wpAny_execs_cons (wpAny_Return_some (get_attr rfl (wpAny_Name (wpAny_loadName_local (by rw [hh.here.env.sc]; exact hh.here.env.kind) hnk (by rw [hh.here.env.loc]; exact sr5.fr.ns) (if_pos rfl) ?_) ndn)))
    refine flies_get (s := { s with heap := h5, toks := t1 + 1 }) cok we sr5 n5 hng fun pv hpv => ?_
    refine wpAny_bind (wpAny_bindName (store_go (s := { s with heap := h5, toks := t1 + 1 + 1 }) hh.here.env hl sr5 fun h6 sr6 => ?_))
    unfold unbindBehindTheSuite
    refine wpAny_onRaise (wpAny_unbindName_local (v := .none) hnk (by rw [hh.here.env.loc]; exact sr6.fr.ns) (by simp) (by rw [hh.here.env.sc, hh.here.env.kind]; rfl) fun h7 u hn7 hs7 => ?_)
    rw [hh.here.env.loc] at hn7 hs7
    exact k pv h7 _ ads1 led1 _ frs2 (.inr ⟨hsoft, u1.trans u2⟩) (sr6.store hn7 hs7) ar1 ex1 hpv
end
end
-- N1
section
open PySem PySem.W PyProof.Rows PySem.Calls PySem.SeqAt
noncomputable def globQ (ck : Ck) (x : Str) : Bool := ck.sc.names.lookup x == some .globalImplicit && (x == ("__debug__" : Str)) == false
noncomputable def loclQ (ck : Ck) (i : Nat) (x : Str) : Bool := ck.nm[i]? == some x && ck.sc.names.lookup x == some .local && (x == ("__debug__" : Str)) == false
noncomputable def notSet (x : Expr) : Bool := match x with
  | .Set _ _ _ => false
  | _ => true
theorem marks_of {o : CmpOp} {y : Expr} (h : notSet y = true) : behindInMarks o y = false := by
  cases y <;> first | rfl | cases h
noncomputable def compQ (scope : Scope) (t : Str) : Bool := scope.names.all (fun x => x.2 != .free && x.2 != .cell && (x.2 != .local || scope.names.lookup x.1 == some .local)) && scope.kind == .function && scope.names.lookup t == some .local
theorem an2 {a b : Bool} (h : (a && b) = true) : a = true ∧ b = true := Bool.and_eq_true_iff.mp h
theorem an3 {a b c : Bool} (h : (a && (b && c)) = true) : a = true ∧ b = true ∧ c = true := ⟨(an2 h).1, an2 (an2 h).2⟩
theorem an4 {a b c d : Bool} (h : (a && (b && (c && d))) = true) : a = true ∧ b = true ∧ c = true ∧ d = true := ⟨(an2 h).1, an3 (an2 h).2⟩
theorem an5 {a b c d e : Bool} (h : (a && (b && (c && (d && e)))) = true) : a = true ∧ b = true ∧ c = true ∧ d = true ∧ e = true := ⟨(an2 h).1, an4 (an2 h).2⟩
theorem an6 {a b c d e f : Bool} (h : (a && (b && (c && (d && (e && f))))) = true) : a = true ∧ b = true ∧ c = true ∧ d = true ∧ e = true ∧ f = true := ⟨(an2 h).1, an5 (an2 h).2⟩
theorem globQ_ok {ck : Ck} {x : Str} (h : globQ ck x = true) : ck.sc.names.lookup x = some .globalImplicit ∧ (x == ("__debug__" : Str)) = false := ⟨beq_iff_eq.mp (an2 h).1, beq_iff_eq.mp (an2 h).2⟩
theorem loclQ_ok {ck : Ck} {i : Nat} {x : Str} (h : loclQ ck i x = true) : ck.nm[i]? = some x ∧ ck.sc.names.lookup x = some .local ∧ (x == ("__debug__" : Str)) = false := ⟨beq_iff_eq.mp (an2 (an2 h).1).1, beq_iff_eq.mp (an2 (an2 h).1).2, beq_iff_eq.mp (an2 h).2⟩
theorem compQ_ok {scope : Scope} {t : Str} (h : compQ scope t = true) : (∀ x ∈ scope.names, x.2 ≠ .free) ∧ (∀ x ∈ scope.names, x.2 ≠ .cell) ∧ scope.kind = .function ∧ (∀ x ∈ scope.names, x.2 = .local → scope.names.lookup x.1 = some .local) ∧ scope.names.lookup t = some .local :=
  have g := List.all_eq_true.mp (an2 (an2 h).1).1
  ⟨fun x hx => bne_iff_ne.mp (an2 (an2 (g x hx)).1).1, fun x hx => bne_iff_ne.mp (an2 (an2 (g x hx)).1).2, beq_iff_eq.mp (an2 (an2 h).1).2, fun x hx e => (Bool.or_eq_true_iff.mp (an2 (g x hx)).2).elim (fun q => absurd e (bne_iff_ne.mp q)) beq_iff_eq.mp, beq_iff_eq.mp (an2 h).2⟩
/-- what is known of the program's names -/
structure Tab (S : Sta) (eI : Nat) (fI : Addr) (fd : FuncData) : Prop where
  cok : S.c.Ok
  own : Own S
  glo : ∀ k x v, S.gnm k = some x → S.G k = some v → ∃ y, S.c.mg x = some y ∧ VR S.c.hf (fun a o => S.c.base.get? a = some o) [] v y
  fn : ∀ k f, S.fnm k = some f → ∃ adr, S.c.mg f = some (.ref adr) ∧ S.fadr k = some adr ∧ keepIn S.c.K (.ref adr) = true
  cls : ∀ k f, S.cnm k = some f → S.soft k = false ∧ ∃ C adr, S.c.mg f = some (.ref C) ∧ S.sg.cls k = some C ∧ S.fadr k = some adr ∧ keepIn S.c.K (.ref C) = true ∧ makesIn S.c.K C = true ∧ findIn S.c.K (.ref C) "__init__" = some (some (.ref adr)) ∧ isFn S.c.K (.ref adr) = true
  meth : ∀ k n, S.sg.mname k = some n → MethNm S (St n) k
  bl : ∀ id ∈ (["len", "chr", "ord", "max", "min"] : List String), S.c.mg (Str.ofString id) = none ∧ S.c.mb (Str.ofString id) = some (.builtin id)
  rng : S.c.mg "range" = none ∧ S.c.mb "range" = some (.type "range")
  we : WErr S eI fI fd
  wn : S.c.mg S.wnm = some (.ref S.WE) ∧ keepIn S.c.K (.ref S.WE) = true
/-- parts of a text's tree: where the compact tree says nothing, the text's own tree does -/
noncomputable def subs (x : Expr) : List Expr := match x with
  | .BoolOp _ vs _ => vs
  | .BinOp a _ b _ => [a, b]
  | .UnaryOp _ a _ => [a]
  | .IfExp a b c _ => [a, b, c]
  | .Dict _ vs _ => vs
  | .ListComp e gs _ _ => e :: gs.map (·.iter)
  | .Compare a _ cs _ => a :: cs
  | .Call f as _ _ => f :: as
  | .Attribute a _ _ => [a]
  | .Subscript a b _ => [a, b]
  | .List es _ => es
  | .Tuple es _ _ => es
  | .Slice a b _ _ => a.toList ++ b.toList
  | _ => []
noncomputable def kd (x : Expr) (i : Nat) : Expr := (subs x).getD i x
noncomputable def knd (x : Expr) : Nat := match x with
  | .Constant _ k _ => k
  | .Tuple _ k _ => k
  | _ => 0
noncomputable def scpOf (x : Expr) : Scope := match x with
  | .ListComp _ _ s _ => s
  | _ => default
noncomputable def ctg (x : Expr) : Expr := match x with
  | .ListComp _ gs _ _ => (gs.map (·.target)).headD x
  | _ => x
noncomputable def nmOf (x : Expr) : Str := match x with
  | .Name s _ => s
  | _ => ""
noncomputable def dkeys (x : Expr) : List (Option Expr) := match x with
  | .Dict ks _ _ => ks
  | _ => []
noncomputable def litC (c : Lit) : Const := match c with
  | .none => .none
  | .bool b => .bool b
  | .int i => .int i
  | .str s => .str (St s)
noncomputable def nmA (ck : Ck) (i : Nat) : Str := ck.nm.getD i ""
noncomputable def call1 (f : Str) (x : Expr) (as : List Expr) : Expr := .Call (.Name f (kd x 0).pos) as [] x.pos
noncomputable def methE (f : Str) (x o : Expr) (as : List Expr) : Expr := .Call (.Attribute o f (kd x 0).pos) as [] x.pos
noncomputable def kd2 (x : Expr) : Expr := kd (kd x 0) 0
noncomputable def ln (x : Expr) : Bool := (kd x 0).pos.endLine == x.pos.line
noncomputable def unK : List (List Nat) → List (Option Expr) → List (Option Expr)
  | [], _ => []
  | k :: ks, os => some (.Constant (.str (St k)) (knd ((os.headD none).getD (.Name "" default))) ((os.headD none).getD (.Name "" default)).pos) :: unK ks os.tail
noncomputable def exLen : Exs → Nat
  | .nil => 0
  | .cons _ es => exLen es + 1
theorem unK_len : ∀ (ks : List (List Nat)) (os : List (Option Expr)), (unK ks os).length = ks.length
  | [], _ => rfl
  | _ :: ks, os => congrArg Nat.succ (unK_len ks os.tail)
theorem unK_some : ∀ (ks : List (List Nat)) (os : List (Option Expr)), (unK ks os).all (·.isSome) = true
  | [], _ => rfl
  | _ :: ks, os => unK_some ks os.tail
section
variable (S : Sta)
mutual
/-- the text's tree that a compact tree says, and whether it may be read so -/
noncomputable def un : Ex → Ck → Bool → Expr → Expr × Bool
  | .lit c, _, _, x => (.Constant (litC c) (knd x) x.pos, true)
  | .neg i, _, _, x => (.UnaryOp .USub (.Constant (.int i) (knd (kd x 0)) (kd x 0).pos) x.pos, true)
  | .loc i, ck, _, x => (.Name (nmA ck i) x.pos, loclQ ck i (nmA ck i))
  | .glo k, ck, _, x => (.Name ((S.gnm k).getD "") x.pos, S.gnm k == some ((S.gnm k).getD "") && globQ ck ((S.gnm k).getD ""))
  | .attr e f, ck, _, x => (.Attribute (un e ck false (kd x 0)).1 (St f) x.pos, plainBase (un e ck false (kd x 0)).1 && (un e ck false (kd x 0)).2)
  | .call f as, ck, _, x => (call1 ((S.fnm f).getD "") x (uns as ck (subs x).tail).1, S.fnm f == some ((S.fnm f).getD "") && (globQ ck ((S.fnm f).getD "") && ((!S.soft f || ck.top) && ((uns as ck (subs x).tail).1.all notStar && (uns as ck (subs x).tail).2))))
  | .meth e f as, ck, _, x => (methE (St ((S.sg.mname f).getD [])) x (un e ck false (kd2 x)).1 (uns as ck (subs x).tail).1,
      (S.sg.mname f == some ((S.sg.mname f).getD []) && (plainBase (un e ck false (kd2 x)).1 && ln x)) && (decide ((uns as ck (subs x).tail).1.length < 30) && ((un e ck false (kd2 x)).2 && ((uns as ck (subs x).tail).1.all notStar && (uns as ck (subs x).tail).2))))
  | .new f as, ck, _, x => (call1 ((S.cnm f).getD "") x (uns as ck (subs x).tail).1, S.cnm f == some ((S.cnm f).getD "") && (globQ ck ((S.cnm f).getD "") && ((uns as ck (subs x).tail).1.all notStar && (uns as ck (subs x).tail).2)))
  | .len e, ck, _, x => (call1 (Str.ofString "len") x [(un e ck false (kd x 1)).1], globQ ck (Str.ofString "len") && (notStar (un e ck false (kd x 1)).1 && (un e ck false (kd x 1)).2))
  | .chr e, ck, _, x => (call1 (Str.ofString "chr") x [(un e ck false (kd x 1)).1], globQ ck (Str.ofString "chr") && (notStar (un e ck false (kd x 1)).1 && (un e ck false (kd x 1)).2))
  | .ord e, ck, _, x => (call1 (Str.ofString "ord") x [(un e ck false (kd x 1)).1], globQ ck (Str.ofString "ord") && (notStar (un e ck false (kd x 1)).1 && (un e ck false (kd x 1)).2))
  | .max2 e d, ck, _, x => (call1 (Str.ofString "max") x [(un e ck false (kd x 1)).1, (un d ck false (kd x 2)).1], globQ ck (Str.ofString "max") && (notStar (un e ck false (kd x 1)).1 && (notStar (un d ck false (kd x 2)).1 && ((un e ck false (kd x 1)).2 && (un d ck false (kd x 2)).2))))
  | .min2 e d, ck, _, x => (call1 (Str.ofString "min") x [(un e ck false (kd x 1)).1, (un d ck false (kd x 2)).1], globQ ck (Str.ofString "min") && (notStar (un e ck false (kd x 1)).1 && (notStar (un d ck false (kd x 2)).1 && ((un e ck false (kd x 1)).2 && (un d ck false (kd x 2)).2))))
  | .lower e, ck, _, x => (methE "lower" x (un e ck false (kd2 x)).1 [], plainBase (un e ck false (kd2 x)).1 && (ln x && (un e ck false (kd2 x)).2))
  | .index e d, ck, _, x => (methE "index" x (un e ck false (kd2 x)).1 [(un d ck false (kd x 1)).1], plainBase (un e ck false (kd2 x)).1 && (ln x && (notStar (un d ck false (kd x 1)).1 && ((un e ck false (kd2 x)).2 && (un d ck false (kd x 1)).2))))
  | .join e d, ck, _, x => (methE "join" x (un e ck false (kd2 x)).1 [(un d ck false (kd x 1)).1], plainBase (un e ck false (kd2 x)).1 && (ln x && (notStar (un d ck false (kd x 1)).1 && ((un e ck false (kd2 x)).2 && (un d ck false (kd x 1)).2))))
  | .dget e d, ck, _, x => (methE "get" x (un e ck false (kd2 x)).1 [(un d ck false (kd x 1)).1], plainBase (un e ck false (kd2 x)).1 && (ln x && (notStar (un d ck false (kd x 1)).1 && ((un e ck false (kd2 x)).2 && (un d ck false (kd x 1)).2))))
  | .append e d, ck, _, x => (methE "append" x (un e ck false (kd2 x)).1 [(un d ck false (kd x 1)).1], plainBase (un e ck false (kd2 x)).1 && (ln x && (notStar (un d ck false (kd x 1)).1 && ((un e ck false (kd2 x)).2 && (un d ck false (kd x 1)).2))))
  | .bin op e d, ck, _, x => (.BinOp (un e ck false (kd x 0)).1 (opOf op) (un d ck false (kd x 1)).1 x.pos, (un e ck false (kd x 0)).2 && (un d ck false (kd x 1)).2)
  | .pow i j, _, _, x => (.BinOp (.Constant (.int i) (knd (kd x 0)) (kd x 0).pos) .Pow (.Constant (.int j) (knd (kd x 1)) (kd x 1).pos) x.pos, true)
  | .cmp op e d, ck, _, x => (.Compare (un e ck false (kd x 0)).1 [copOf op] [(un d ck false (kd x 1)).1] x.pos, notSet (un d ck false (kd x 1)).1 && ((un e ck false (kd x 0)).2 && (un d ck false (kd x 1)).2))
  | .cmp2 o1 o2 e d f, ck, m, x => (.Compare (un e ck false (kd x 0)).1 [copOf o1, copOf o2] [(un d ck false (kd x 1)).1, (un f ck false (kd x 2)).1] x.pos, m && (notSet (un f ck false (kd x 2)).1 && ((un e ck false (kd x 0)).2 && ((un d ck false (kd x 1)).2 && (un f ck false (kd x 2)).2))))
  | .band e d, ck, m, x => (.BoolOp .And [(un e ck m (kd x 0)).1, (un d ck m (kd x 1)).1] x.pos, (un e ck m (kd x 0)).2 && (un d ck m (kd x 1)).2)
  | .bor e d, ck, m, x => (.BoolOp .Or [(un e ck m (kd x 0)).1, (un d ck m (kd x 1)).1] x.pos, (un e ck m (kd x 0)).2 && (un d ck m (kd x 1)).2)
  | .not e, ck, m, x => (.UnaryOp .Not (un e ck m (kd x 0)).1 x.pos, (un e ck m (kd x 0)).2)
  | .ite t e d, ck, m, x => (.IfExp (un t ck true (kd x 0)).1 (un e ck false (kd x 1)).1 (un d ck false (kd x 2)).1 x.pos, !m && ((un t ck true (kd x 0)).2 && ((un e ck false (kd x 1)).2 && (un d ck false (kd x 2)).2)))
  | .idx e d, ck, _, x => (.Subscript (un e ck false (kd x 0)).1 (un d ck false (kd x 1)).1 x.pos, plainKey (un d ck false (kd x 1)).1 && ((un e ck false (kd x 0)).2 && (un d ck false (kd x 1)).2))
  | .slice e d f, ck, _, x => (.Subscript (un e ck false (kd x 0)).1 (.Slice (some (un d ck false (kd (kd x 1) 0)).1) (some (un f ck false (kd (kd x 1) 1)).1) none (kd x 1).pos) x.pos, (un e ck false (kd x 0)).2 && ((un d ck false (kd (kd x 1) 0)).2 && (un f ck false (kd (kd x 1) 1)).2))
  | .tup es, ck, _, x => (.Tuple (uns es ck (subs x)).1 (knd x) x.pos, decide ((uns es ck (subs x)).1.length ≤ 100) && ((uns es ck (subs x)).1.all notStar && (uns es ck (subs x)).2))
  | .lst es, ck, _, x => (.List (uns es ck (subs x)).1 x.pos, decide ((uns es ck (subs x)).1.length ≤ 100) && ((uns es ck (subs x)).1.all notStar && (uns es ck (subs x)).2))
  | .mlst es, ck, _, x => (.List (uns es ck (subs x)).1 x.pos, decide ((uns es ck (subs x)).1.length ≤ 100) && ((uns es ck (subs x)).1.all notStar && (uns es ck (subs x)).2))
  | .dct ks es, ck, _, x => (.Dict (unK ks (dkeys x)) (uns es ck.low (subs x)).1 x.pos, decide (ks.length = exLen es) && (!(unK ks (dkeys x)).isEmpty && (decide (ks.length ≤ 15) && (decide ks.Nodup && (uns es ck.low (subs x)).2))))
  | .mdct ks es, ck, _, x => (.Dict (unK ks (dkeys x)) (uns es ck.low (subs x)).1 x.pos, decide (ks.length = exLen es) && (!(unK ks (dkeys x)).isEmpty && (decide (ks.length ≤ 15) && (decide ks.Nodup && (uns es ck.low (subs x)).2))))
  | .comp elt src, ck, _, x => (.ListComp (un elt ⟨scpOf x, [nmOf (ctg x)], false, false⟩ false (kd x 0)).1 [⟨.Name (nmOf (ctg x)) (ctg x).pos, (un src ck false (kd x 1)).1, [], 0⟩] (scpOf x) x.pos,
      plainIter (un src ck false (kd x 1)).1 && (compQ (scpOf x) (nmOf (ctg x)) && ((un src ck false (kd x 1)).2 && (un elt ⟨scpOf x, [nmOf (ctg x)], false, false⟩ false (kd x 0)).2)))
noncomputable def uns : Exs → Ck → List Expr → List Expr × Bool
  | .nil, _, _ => ([], true)
  | .cons e es, ck, xs => ((un e ck false (xs.headD (.Name "" default))).1 :: (uns es ck xs.tail).1, (un e ck false (xs.headD (.Name "" default))).2 && (uns es ck xs.tail).2)
end
end
section
variable {S : Sta} {eI : Nat} {fI : Addr} {fd : FuncData} {n : Nat} {F : Fns}
noncomputable def OkM (S : Sta) (n : Nat) (ck : Ck) (m : Bool) (x : Expr) (d : Loc → Hp → Rs V) : Prop := (m = false → EvalOK S n ck x d) ∧ (m = true → TestOK S n ck x d)
theorem both {ck : Ck} {m : Bool} {x : Expr} {d : Loc → Hp → Rs V} (h : EvalOK S n ck x d) (he : ∀ env whole, PySem.isTrue x env whole = (do let v ← whole; standAt x.pos; holding [v] (truthy v))) : OkM S n ck m x d := ⟨fun _ => h, fun _ => test_value h he⟩
theorem OkM.ev {ck : Ck} {x : Expr} {d : Loc → Hp → Rs V} (h : OkM S n ck false x d) : EvalOK S n ck x d := h.1 rfl
theorem OkM.te {ck : Ck} {x : Expr} {d : Loc → Hp → Rs V} (h : OkM S n ck true x d) : TestOK S n ck x d := h.2 rfl
theorem OkM.mk {ck : Ck} {m : Bool} {x : Expr} {d : Loc → Hp → Rs V} (h1 : m = false → EvalOK S n ck x d) (h2 : m = true → TestOK S n ck x d) : OkM S n ck m x d := ⟨h1, h2⟩
theorem blt {ck : Ck} {id : String} (T : Tab S eI fI fd) (hid : id ∈ (["len", "chr", "ord", "max", "min"] : List String)) (h : globQ ck (Str.ofString id) = true) : Blt S ck (Str.ofString id) id := ⟨(globQ_ok h).1, (globQ_ok h).2, (T.bl id hid).1, (T.bl id hid).2⟩
theorem ok_lit {ck : Ck} {c : Lit} {k : Nat} {pos : Pos} : EvalOK S n ck (.Constant (litC c) k pos) (fun _ H => .ok (litV c) H) := match c with
  | .none => ok_lit_none
  | .bool _ => ok_lit_bool
  | .int _ => ok_lit_int
  | .str _ => ok_lit_str
theorem ok_lit_m {ck : Ck} {m : Bool} {c : Lit} {k : Nat} {pos : Pos} : OkM S n ck m (.Constant (litC c) k pos) (fun _ H => .ok (litV c) H) := both ok_lit fun _ _ => rfl
mutual
theorem un_ok (T : Tab S eI fI fd) (hF : CallsOK S n F) : ∀ (e : Ex) (ck : Ck) (m : Bool) (x : Expr), (un S e ck m x).2 = true → OkM S n ck m (un S e ck m x).1 (evalE F S.G S.sg e)
  | .lit c, ck, m, x, h => ok_lit_m
  | .neg i, ck, m, x, h => both ok_neg fun _ _ => rfl
  | .loc i, ck, m, x, h => have g := loclQ_ok h; both (ok_loc g.1 g.2.1 g.2.2) fun _ _ => rfl
  | .glo k, ck, m, x, h => have g := an2 h; have q := globQ_ok g.2; both (ok_glo q.1 q.2 T.cok fun v hv => T.glo k _ v (beq_iff_eq.mp g.1) hv) fun _ _ => rfl
  | .len e, ck, m, x, h => have g := an3 h; both (ok_len T.cok (blt T (.head _) g.1) g.2.1 (un_ok T hF e ck false _ g.2.2).ev) fun _ _ => rfl
  | .chr e, ck, m, x, h => have g := an3 h; both (ok_chr T.cok (blt T (.tail _ (.head _)) g.1) g.2.1 (un_ok T hF e ck false _ g.2.2).ev) fun _ _ => rfl
  | .ord e, ck, m, x, h => have g := an3 h; both (ok_ord T.cok (blt T (.tail _ (.tail _ (.head _))) g.1) g.2.1 (un_ok T hF e ck false _ g.2.2).ev) fun _ _ => rfl
  | .max2 e d, ck, m, x, h => have g := an5 h; both (ok_max2 T.cok (blt T (.tail _ (.tail _ (.tail _ (.head _)))) g.1) g.2.1 g.2.2.1 (un_ok T hF e ck false _ g.2.2.2.1).ev (un_ok T hF d ck false _ g.2.2.2.2).ev) fun _ _ => rfl
  | .min2 e d, ck, m, x, h => have g := an5 h; both (ok_min2 T.cok (blt T (.tail _ (.tail _ (.tail _ (.tail _ (.head _))))) g.1) g.2.1 g.2.2.1 (un_ok T hF e ck false _ g.2.2.2.1).ev (un_ok T hF d ck false _ g.2.2.2.2).ev) fun _ _ => rfl
  | .attr e f, ck, m, x, h => have g := an2 h; both (ok_attr T.cok T.own g.1 (un_ok T hF e ck false _ g.2).ev) fun _ _ => rfl
  | .call f as, ck, m, x, h => have g := an5 h; have q := globQ_ok g.2.1; both (ok_call T.cok hF ⟨q.1, q.2, T.fn f _ (beq_iff_eq.mp g.1), fun hs => by have := g.2.2.1; rw [hs] at this; exact this⟩ (uns_ok T hF as ck _ g.2.2.2.1 g.2.2.2.2) g.2.2.2.1) fun _ _ => rfl
  | .meth e f as, ck, m, x, h => have g := an2 h; have g1 := an3 g.1; have g2 := an4 g.2; both (ok_meth T.cok hF (T.meth f _ (beq_iff_eq.mp g1.1)) g1.2.1 g1.2.2 (of_decide_eq_true g2.1) (un_ok T hF e ck false _ g2.2.1).ev (uns_ok T hF as ck _ g2.2.2.1 g2.2.2.2) g2.2.2.1) fun _ _ => rfl
  | .new f as, ck, m, x, h => have g := an4 h; have q := globQ_ok g.2.1; have t := T.cls f _ (beq_iff_eq.mp g.1); both (ok_new T.cok hF ⟨q.1, q.2, t.2, t.1⟩ (uns_ok T hF as ck _ g.2.2.1 g.2.2.2) g.2.2.1) fun _ _ => rfl
  | .lower e, ck, m, x, h => have g := an3 h; both (ok_lower g.1 g.2.1 (un_ok T hF e ck false _ g.2.2).ev) fun _ _ => rfl
  | .index e d, ck, m, x, h => have g := an5 h; both (ok_index g.1 g.2.1 g.2.2.1 (un_ok T hF e ck false _ g.2.2.2.1).ev (un_ok T hF d ck false _ g.2.2.2.2).ev) fun _ _ => rfl
  | .join e d, ck, m, x, h => have g := an5 h; both (ok_join g.1 g.2.1 g.2.2.1 (un_ok T hF e ck false _ g.2.2.2.1).ev (un_ok T hF d ck false _ g.2.2.2.2).ev) fun _ _ => rfl
  | .dget e d, ck, m, x, h => have g := an5 h; both (ok_dget T.cok g.1 g.2.1 g.2.2.1 (un_ok T hF e ck false _ g.2.2.2.1).ev (un_ok T hF d ck false _ g.2.2.2.2).ev) fun _ _ => rfl
  | .append e d, ck, m, x, h => have g := an5 h; both (ok_append g.1 g.2.1 g.2.2.1 (un_ok T hF e ck false _ g.2.2.2.1).ev (un_ok T hF d ck false _ g.2.2.2.2).ev) fun _ _ => rfl
  | .bin op e d, ck, m, x, h => have g := an2 h; both (ok_bin (un_ok T hF e ck false _ g.1).ev (un_ok T hF d ck false _ g.2).ev) fun _ _ => rfl
  | .pow i j, ck, m, x, h => both ok_pow fun _ _ => rfl
  | .cmp op e d, ck, m, x, h => have g := an3 h; have a := un_ok T hF e ck false _ g.2.1; have b := un_ok T hF d ck false _ g.2.2; .mk (fun _ => ok_cmp T.cok a.ev b.ev (marks_of g.1)) fun _ => test_cmp T.cok a.ev b.ev (marks_of g.1)
  | .cmp2 o1 o2 e d f, ck, m, x, h => have g := an5 h; .mk (fun q => nomatch q.symm.trans g.1) fun _ => test_cmp2 T.cok (un_ok T hF e ck false _ g.2.2.1).ev (un_ok T hF d ck false _ g.2.2.2.1).ev (un_ok T hF f ck false _ g.2.2.2.2).ev (marks_of g.2.1)
  | .band e d, ck, m, x, h => have g := an2 h; have a := un_ok T hF e ck m _ g.1; have b := un_ok T hF d ck m _ g.2; .mk (fun q => ok_and (a.1 q) (b.1 q)) fun q => test_and (a.2 q) (b.2 q)
  | .bor e d, ck, m, x, h => have g := an2 h; have a := un_ok T hF e ck m _ g.1; have b := un_ok T hF d ck m _ g.2; .mk (fun q => ok_or (a.1 q) (b.1 q)) fun q => test_or (a.2 q) (b.2 q)
  | .not e, ck, m, x, h => have a := un_ok T hF e ck m _ h; .mk (fun q => ok_not (a.1 q)) fun q => test_not (a.2 q)
  | .ite t e d, ck, m, x, h => have g := an4 h; .mk (fun _ => ok_ite (un_ok T hF t ck true _ g.2.1).te (un_ok T hF e ck false _ g.2.2.1).ev (un_ok T hF d ck false _ g.2.2.2).ev) fun q => absurd g.1 (by rw [q]; exact fun z => nomatch z)
  | .idx e d, ck, m, x, h => have g := an3 h; both (ok_idx g.1 (un_ok T hF e ck false _ g.2.1).ev (un_ok T hF d ck false _ g.2.2).ev) fun _ _ => rfl
  | .slice e d f, ck, m, x, h => have g := an3 h; both (ok_slice (un_ok T hF e ck false _ g.1).ev (un_ok T hF d ck false _ g.2.1).ev (un_ok T hF f ck false _ g.2.2).ev) fun _ _ => rfl
  | .tup es, ck, m, x, h => have g := an3 h; both (ok_tup (uns_ok T hF es ck _ g.2.1 g.2.2) (of_decide_eq_true g.1)) fun _ _ => rfl
  | .lst es, ck, m, x, h => have g := an3 h; both (ok_lst (uns_ok T hF es ck _ g.2.1 g.2.2) (of_decide_eq_true g.1)) fun _ _ => rfl
  | .mlst es, ck, m, x, h => have g := an3 h; both (ok_mlst (uns_ok T hF es ck _ g.2.1 g.2.2) (of_decide_eq_true g.1)) fun _ _ => rfl
  | .dct ks es, ck, m, x, h => have g := an5 h; have p := prs_ok T hF es ck.low ks (dkeys x) (subs x) (of_decide_eq_true g.1) g.2.2.2.2
    both (dict_any false T.cok p.1 (unK_some ks _) ((unK_len ks _).trans p.2) (fun q => by have := g.2.1; rw [q] at this; cases this) (by rw [unK_len]; exact of_decide_eq_true g.2.2.1) (of_decide_eq_true g.2.2.2.1) (unK_len ks _).symm) fun _ _ => rfl
  | .mdct ks es, ck, m, x, h => have g := an5 h; have p := prs_ok T hF es ck.low ks (dkeys x) (subs x) (of_decide_eq_true g.1) g.2.2.2.2
    both (dict_any true T.cok p.1 (unK_some ks _) ((unK_len ks _).trans p.2) (fun q => by have := g.2.1; rw [q] at this; cases this) (by rw [unK_len]; exact of_decide_eq_true g.2.2.1) (of_decide_eq_true g.2.2.2.1) (unK_len ks _).symm) fun _ _ => rfl
  | .comp elt src, ck, m, x, h => have g := an4 h; have q := compQ_ok g.2.1; both (ok_comp T.cok (un_ok T hF src ck false _ g.2.2.1).ev (un_ok T hF elt _ false _ g.2.2.2).ev g.1 q.1 q.2.1 q.2.2.1 q.2.2.2.1 q.2.2.2.2) fun _ _ => rfl
theorem uns_ok (T : Tab S eI fI fd) (hF : CallsOK S n F) : ∀ (es : Exs) (ck : Ck) (xs : List Expr), (uns S es ck xs).1.all notStar = true → (uns S es ck xs).2 = true → EvalsOK S n ck (uns S es ck xs).1 (evalEs F S.G S.sg es)
  | .nil, ck, xs, _, h => args_nil
  | .cons e es, ck, xs, hs, h => have g := an2 h; have q := an2 hs; args_cons (un_ok T hF e ck false _ g.1).ev (uns_ok T hF es ck _ q.2 g.2) (star_of q.1)
theorem prs_ok (T : Tab S eI fI fd) (hF : CallsOK S n F) : ∀ (es : Exs) (ck : Ck) (ks : List (List Nat)) (os : List (Option Expr)) (xs : List Expr), ks.length = exLen es → (uns S es ck xs).2 = true → PairsOK S n ck ks (unK ks os) (uns S es ck xs).1 (evalEs F S.G S.sg es) ∧ ks.length = (uns S es ck xs).1.length
  | .nil, ck, [], os, xs, _, h => ⟨pairs_nil, rfl⟩
  | .nil, ck, _ :: _, os, xs, hl, h => nomatch hl
  | .cons _ _, ck, [], os, xs, hl, h => nomatch hl
  | .cons e es, ck, k :: ks, os, xs, hl, h => have g := an2 h; have p := prs_ok T hF es ck ks os.tail xs.tail (Nat.succ.inj hl) g.2; ⟨pairs_cons (un_ok T hF e ck false _ g.1).ev p.1, congrArg Nat.succ p.2⟩
end
end
end
-- N2
section
open PySem PySem.W PyProof.Rows PySem.Calls PySem.SeqAt
/-- parts of a statement -/
noncomputable def sE (x : Stmt) : List Expr := match x with
  | .Assign ts v _ => v :: ts
  | .AugAssign t _ v _ => [v, t]
  | .Expr v _ => [v]
  | .If t _ _ _ => [t]
  | .While t _ _ _ => [t]
  | .For t i _ _ _ => [i, t]
  | .Return v _ => v.toList
  | .Raise e _ _ => e.toList
  | _ => []
noncomputable def hB (h : ExceptHandler) : List Stmt := match h with | .ExceptHandler _ _ b _ => b
noncomputable def hE (h : ExceptHandler) : Expr := match h with | .ExceptHandler e _ _ _ => e.getD (.Name "" default)
noncomputable def hN (h : ExceptHandler) : Str := match h with | .ExceptHandler _ n _ _ => n.getD ""
noncomputable def hP (h : ExceptHandler) : Pos := match h with | .ExceptHandler _ _ _ p => p
noncomputable def sB (x : Stmt) : List Stmt := match x with
  | .If _ a _ _ => a
  | .While _ a _ _ => a
  | .For _ _ a _ _ => a
  | .Try a _ _ _ _ => a
  | _ => []
noncomputable def sO (x : Stmt) : List Stmt := match x with
  | .If _ _ b _ => b
  | _ => []
noncomputable def sH (x : Stmt) : ExceptHandler := match x with
  | .Try _ hs _ _ _ => hs.headD (.ExceptHandler none none [] default)
  | _ => .ExceptHandler none none [] default
noncomputable def ke (x : Stmt) (i : Nat) : Expr := (sE x).getD i (.Name "" default)
noncomputable def s0 (b : List Stmt) : Stmt := b.headD (.Pass default)
noncomputable def nmsU (ck : Ck) : List Nat → List Expr → List Expr × Bool
  | [], _ => ([], true)
  | i :: is, es => (.Name (nmA ck i) (es.headD (.Name "" default)).pos :: (nmsU ck is es.tail).1, loclQ ck i (nmA ck i) && (nmsU ck is es.tail).2)
theorem nmsU_ok {ck : Ck} : ∀ (is : List Nat) (es : List Expr), (nmsU ck is es).2 = true → NmsOK ck (nmsU ck is es).1 is
  | [], _, _ => .nil
  | _ :: is, es, h => have g := an2 h; have q := loclQ_ok g.1; .cons q.1 q.2.1 (nmsU_ok is es.tail g.2)
noncomputable def bnU (ck : Ck) : List Nat → List Str × Bool
  | [] => ([], true)
  | i :: is => (nmA ck i :: (bnU ck is).1, loclQ ck i (nmA ck i) && (bnU ck is).2)
theorem bnU_ok {ck : Ck} : ∀ (is : List Nat), (bnU ck is).2 = true → BNames ck (bnU ck is).1 is
  | [], _ => .nil
  | _ :: is, h => have g := an2 h; have q := loclQ_ok g.1; .cons q.1 q.2.1 (bnU_ok is g.2)
noncomputable def swEq (r : Option (Option (List Str))) (l : List Str) : Bool := match r with
  | some (some names) => names.reverse == l
  | _ => false
theorem swEq_ok {r : Option (Option (List Str))} {l : List Str} (h : swEq r l = true) : ∃ names, r = some (some names) ∧ names.reverse = l := match r, h with
  | some (some names), h => ⟨names, rfl, beq_iff_eq.mp h⟩
section
variable (S : Sta)
noncomputable def tgU (ck : Ck) : List Tg → List Expr → List Expr × Bool
  | [], _ => ([], true)
  | .loc i :: ts, es => (.Name (nmA ck i) (es.headD (.Name "" default)).pos :: (tgU ck ts es.tail).1, loclQ ck i (nmA ck i) && (tgU ck ts es.tail).2)
  | .sub o k :: ts, es => (.Subscript (un S o ck false (kd (es.headD (.Name "" default)) 0)).1 (un S k ck false (kd (es.headD (.Name "" default)) 1)).1 (es.headD (.Name "" default)).pos :: (tgU ck ts es.tail).1,
      (un S o ck false (kd (es.headD (.Name "" default)) 0)).2 && ((un S k ck false (kd (es.headD (.Name "" default)) 1)).2 && (tgU ck ts es.tail).2))
noncomputable def tupE (x : Expr) (es : List Expr) : Expr := .Tuple es (knd x) x.pos
mutual
noncomputable def unS : Sx → Ck → Stmt → Stmt × Bool
  | .asg i e, ck, x => (.Assign [.Name (nmA ck i) (ke x 1).pos] (un S e ck false (ke x 0)).1 x.pos, loclQ ck i (nmA ck i) && (notComp (un S e ck false (ke x 0)).1 && (un S e ck false (ke x 0)).2))
  | .asgU ts e, ck, x => (.Assign [tupE (ke x 1) (tgU S ck ts (subs (ke x 1))).1] (un S e ck false (ke x 0)).1 x.pos,
      (tgU S ck ts (subs (ke x 1))).2 && (notComp (un S e ck false (ke x 0)).1 && (swapRes ck.sc (tgU S ck ts (subs (ke x 1))).1 (un S e ck false (ke x 0)).1 == some none && (un S e ck false (ke x 0)).2)))
  | .asgW is e, ck, x => (.Assign [tupE (ke x 1) (subs (ke x 1))] (un S e ck false (ke x 0)).1 x.pos,
      swEq (swapRes ck.sc (subs (ke x 1)) (un S e ck false (ke x 0)).1) (bnU ck is.reverse).1 && ((bnU ck is.reverse).2 && (notComp (un S e ck false (ke x 0)).1 && (un S e ck false (ke x 0)).2)))
  | .setattr o f e, ck, x => (.Assign [.Attribute (un S o ck false (kd (ke x 1) 0)).1 (St f) (ke x 1).pos] (un S e ck false (ke x 0)).1 x.pos, notComp (un S e ck false (ke x 0)).1 && ((un S e ck false (ke x 0)).2 && (un S o ck false (kd (ke x 1) 0)).2))
  | .augattr o f e, ck, x => (.AugAssign (.Attribute (un S o ck false (kd (ke x 1) 0)).1 (St f) (ke x 1).pos) .Add (un S e ck false (ke x 0)).1 x.pos, (un S e ck false (ke x 0)).2 && (un S o ck false (kd (ke x 1) 0)).2)
  | .augloc i e, ck, x => (.AugAssign (.Name (nmA ck i) (ke x 1).pos) .Add (un S e ck false (ke x 0)).1 x.pos, loclQ ck i (nmA ck i) && (un S e ck false (ke x 0)).2)
  | .setidx o k e, ck, x => (.Assign [.Subscript (un S o ck false (kd (ke x 1) 0)).1 (un S k ck false (kd (ke x 1) 1)).1 (ke x 1).pos] (un S e ck false (ke x 0)).1 x.pos,
      notComp (un S e ck false (ke x 0)).1 && ((un S e ck false (ke x 0)).2 && ((un S o ck false (kd (ke x 1) 0)).2 && (un S k ck false (kd (ke x 1) 1)).2)))
  | .ife t a b, ck, x => (.If (un S t ck true (ke x 0)).1 (unSs a ck (sB x)).1 (unSs b ck (sO x)).1 x.pos, (un S t ck true (ke x 0)).2 && ((unSs a ck (sB x)).2 && (unSs b ck (sO x)).2))
  | .whl t b, ck, x => (.While (un S t ck true (ke x 0)).1 (unSs b ck (sB x)).1 [] x.pos, (un S t ck true (ke x 0)).2 && (unSs b ck (sB x)).2)
  | .fors i e b, ck, x => (.For (.Name (nmA ck i) (ke x 1).pos) (un S e ck false (ke x 0)).1 (unSs b ck (sB x)).1 [] x.pos, loclQ ck i (nmA ck i) && (plainIter (un S e ck false (ke x 0)).1 && ((un S e ck false (ke x 0)).2 && (unSs b ck (sB x)).2)))
  | .forR i e b, ck, x => (.For (.Name (nmA ck i) (ke x 1).pos) (call1 "range" (ke x 0) [(un S e ck false (kd (ke x 0) 1)).1]) (unSs b ck (sB x)).1 [] x.pos,
      loclQ ck i (nmA ck i) && (globQ ck "range" && (notStar (un S e ck false (kd (ke x 0) 1)).1 && ((un S e ck false (kd (ke x 0) 1)).2 && (unSs b ck (sB x)).2))))
  | .forT is e b, ck, x => (.For (tupE (ke x 1) (nmsU ck is (subs (ke x 1))).1) (un S e ck false (ke x 0)).1 (unSs b ck (sB x)).1 [] x.pos,
      (nmsU ck is (subs (ke x 1))).2 && (plainIter (un S e ck false (ke x 0)).1 && ((un S e ck false (ke x 0)).2 && (unSs b ck (sB x)).2)))
  | .ret e, ck, x => (.Return (some (un S e ck false (ke x 0)).1) x.pos, (un S e ck false (ke x 0)).2)
  | .raise a b, ck, x => (.Raise (some (call1 S.wnm (ke x 0) [(un S a ck false (kd (ke x 0) 1)).1, (un S b ck false (kd (ke x 0) 2)).1])) none x.pos,
      globQ ck S.wnm && (notStar (un S a ck false (kd (ke x 0) 1)).1 && (notStar (un S b ck false (kd (ke x 0) 2)).1 && ((un S a ck false (kd (ke x 0) 1)).2 && (un S b ck false (kd (ke x 0) 2)).2))))
  | .expr e, ck, x => (.Expr (un S e ck false (ke x 0)).1 x.pos, notComp (un S e ck false (ke x 0)).1 && (un S e ck false (ke x 0)).2)
  | .tryPlace e, ck, x => (.Try [.Return (some (un S e ck false (ke (s0 (sB x)) 0)).1) (s0 (sB x)).pos] [.ExceptHandler (some (.Name S.wnm (hE (sH x)).pos)) (some (hN (sH x))) [.Return (some (.Attribute (.Name (hN (sH x)) (kd (ke (s0 (hB (sH x))) 0) 0).pos) "place" (ke (s0 (hB (sH x))) 0).pos)) (s0 (hB (sH x))).pos] (hP (sH x))] [] [] x.pos,
      ck.soft && (globQ ck S.wnm && ((List.range ck.nm.length).any (fun i => loclQ ck i (hN (sH x))) && (un S e ck false (ke (s0 (sB x)) 0)).2)))
noncomputable def unSs : Sxs → Ck → List Stmt → List Stmt × Bool
  | .nil, _, _ => ([], true)
  | .cons s ss, ck, xs => ((unS s ck (s0 xs)).1 :: (unSs ss ck xs.tail).1, (unS s ck (s0 xs)).2 && (unSs ss ck xs.tail).2)
end
end
section
variable {S : Sta} {eI : Nat} {fI : Addr} {fd : FuncData} {n : Nat} {F : Fns} {W : Nat}
theorem tgU_ok (T : Tab S eI fI fd) (hF : CallsOK S n F) {ck : Ck} : ∀ (ts : List Tg) (es : List Expr), (tgU S ck ts es).2 = true → TgsOK S n ck F (tgU S ck ts es).1 ts
  | [], _, _ => .nil
  | .loc i :: ts, es, h => have g := an2 h; have q := loclQ_ok g.1; .loc q.1 q.2.1 (tgU_ok T hF ts es.tail g.2)
  | .sub o k :: ts, es, h => have g := an3 h; .sub (un_ok T hF o ck false _ g.1).ev (un_ok T hF k ck false _ g.2.1).ev (tgU_ok T hF ts es.tail g.2.2)
mutual
theorem unS_ok (T : Tab S eI fI fd) (hF : CallsOK S n F) (hn : 1 ≤ n) : ∀ (s : Sx) (ck : Ck) (x : Stmt), ck.nm.Nodup → (unS S s ck x).2 = true → ExecOK S n ck (unS S s ck x).1 (execS F S.G S.sg W s)
  | .asg i e, ck, x, nd, h => have g := an3 h; have q := loclQ_ok g.1; x_asg nd q.1 q.2.1 g.2.1 (un_ok T hF e ck false _ g.2.2).ev
  | .asgU ts e, ck, x, nd, h => have g := an4 h; x_asgU nd (tgU_ok T hF ts _ g.1) g.2.1 (beq_iff_eq.mp g.2.2.1) (un_ok T hF e ck false _ g.2.2.2).ev
  | .asgW is e, ck, x, nd, h => have g := an4 h; have w := swEq_ok g.1
    w.elim fun _ w => x_asgW nd (w.2 ▸ bnU_ok is.reverse g.2.1) g.2.2.1 w.1 (un_ok T hF e ck false _ g.2.2.2).ev
  | .setattr o f e, ck, x, nd, h => have g := an3 h; x_setattr T.cok T.own g.1 (un_ok T hF e ck false _ g.2.1).ev (un_ok T hF o ck false _ g.2.2).ev
  | .augattr o f e, ck, x, nd, h => have g := an2 h; x_augattr T.cok T.own (un_ok T hF e ck false _ g.1).ev (un_ok T hF o ck false _ g.2).ev
  | .augloc i e, ck, x, nd, h => have g := an2 h; have q := loclQ_ok g.1; x_augloc nd q.1 q.2.1 (un_ok T hF e ck false _ g.2).ev
  | .setidx o k e, ck, x, nd, h => have g := an4 h; x_setidx g.1 (un_ok T hF e ck false _ g.2.1).ev (un_ok T hF o ck false _ g.2.2.1).ev (un_ok T hF k ck false _ g.2.2.2).ev
  | .ife t a b, ck, x, nd, h => have g := an3 h; x_ife (un_ok T hF t ck true _ g.1).te (unSs_ok T hF hn a ck _ nd g.2.1) (unSs_ok T hF hn b ck _ nd g.2.2)
  | .whl t b, ck, x, nd, h => have g := an2 h; x_whl (un_ok T hF t ck true _ g.1).te (unSs_ok T hF hn b ck _ nd g.2)
  | .fors i e b, ck, x, nd, h => have g := an4 h; have q := loclQ_ok g.1; x_fors nd q.1 q.2.1 g.2.1 (un_ok T hF e ck false _ g.2.2.1).ev (unSs_ok T hF hn b ck _ nd g.2.2.2)
  | .forR i e b, ck, x, nd, h => have g := an5 h; have q := loclQ_ok g.1; have r := globQ_ok g.2.1; x_forR T.cok nd q.1 q.2.1 r.1 r.2 T.rng.1 T.rng.2 g.2.2.1 (un_ok T hF e ck false _ g.2.2.2.1).ev (unSs_ok T hF hn b ck _ nd g.2.2.2.2)
  | .forT is e b, ck, x, nd, h => have g := an4 h; x_forT nd (nmsU_ok is _ g.1) g.2.1 (un_ok T hF e ck false _ g.2.2.1).ev (unSs_ok T hF hn b ck _ nd g.2.2.2)
  | .ret e, ck, x, nd, h => x_ret (un_ok T hF e ck false _ h).ev
  | .raise a b, ck, x, nd, h => have g := an5 h; have r := globQ_ok g.1; x_raise T.cok T.we r.1 r.2 T.wn.1 T.wn.2 hn (un_ok T hF a ck false _ g.2.2.2.1).ev (un_ok T hF b ck false _ g.2.2.2.2).ev g.2.1 g.2.2.1
  | .expr e, ck, x, nd, h => have g := an2 h; x_expr g.1 (un_ok T hF e ck false _ g.2).ev
  | .tryPlace e, ck, x, nd, h => have g := an4 h; have r := globQ_ok g.2.1
    (List.any_eq_true.mp g.2.2.1).elim fun _ w => have q := loclQ_ok w.2; x_try T.cok T.we g.1 r.1 r.2 T.wn.1 q.1 q.2.1 q.2.2 nd (un_ok T hF e ck false _ g.2.2.2).ev
theorem unSs_ok (T : Tab S eI fI fd) (hF : CallsOK S n F) (hn : 1 ≤ n) : ∀ (ss : Sxs) (ck : Ck) (xs : List Stmt), ck.nm.Nodup → (unSs S ss ck xs).2 = true → ExecsOK S n ck (unSs S ss ck xs).1 (execSs F S.G S.sg W ss)
  | .nil, ck, xs, nd, h => execs_nil
  | .cons s ss, ck, xs, nd, h => have g := an2 h; execs_cons (unS_ok T hF hn s ck _ nd g.1) (unSs_ok T hF hn ss ck _ nd g.2)
end
/-- the table of the functions -/
noncomputable def FnsOK (S : Sta) (FT : Nat → Option Fn) : Prop :=
  ∀ f adr, S.fadr f = some adr → ∀ fn, FT f = some fn → fn.addr = adr ∧ ∃ fd body ds, FnOk S f fn fd body ds ∧ unSs S fn.body ⟨fd.scope, fn.nm, false, S.soft f⟩ body = (body, true)
theorem un_body (T : Tab S eI fI fd) (hF : CallsOK S n F) (hn : 1 ≤ n) {ss : Sxs} {ck : Ck} {body : List Stmt} (nd : ck.nm.Nodup) (h : unSs S ss ck body = (body, true)) : ExecsOK S n ck body (execSs F S.G S.sg W ss) :=
  @Eq.subst _ (fun b => ExecsOK S n ck b (execSs F S.G S.sg W ss)) _ _ (congrArg Prod.fst h) (unSs_ok T hF hn ss ck body nd (congrArg Prod.snd h))
theorem calls_ok (T : Tab S eI fI fd) {FT : Nat → Option Fn} (hT : FnsOK S FT) : ∀ n, CallsOK S n (callF FT S.G S.sg W n)
  | 0 => by
    intro f adr hf A stk L mc led frs ads H s vs xs Qp Ep sr ar hv hfr hst hh hd hu hs k
    exact k.elim
  | n + 1 => by
    intro f adr hf A stk L mc led frs ads H s vs xs Qp Ep sr ar hv hfr hst hh hd hu hs k
    change ECont S _ _ _ _ _ _ _ _ (if n = 0 then Rs.stuck else _) at k
    by_cases hn : n = 0
    · rw [if_pos hn] at k; exact k.elim
    · rw [if_neg hn] at k
      cases hF : FT f with
      | none => rw [hF] at k; exact k.elim
      | some fn =>
        rw [hF] at k
        dsimp only at k
        cases hm : startL fn vs with
        | none => rw [hm] at k; exact k.elim
        | some m =>
          rw [hm] at k
          obtain ⟨ha, fd, body, ds, ok, htr⟩ := hT f adr hf fn hF
          rw [← ha]
          exact call_fn T.cok ok (un_body T (calls_ok T hT n) (by omega) ok.nd htr) hm sr ar hv hfr hst hh hd hu hs k
end
end
-- R1
section
open PySem
section
variable {F : Fns} {G : Nat → Option V} {sg : Sig} {W : Nat} {m : Loc} {H H1 H2 H3 : Hp} {v w u z p : V} {e a b t : Ex} {as es : Exs} {vs : List V} {c d q : Bool} {r : Rs V}
theorem bind_ok {α β : Type} {x : Rs α} {y : α} {H : Hp} {f : α → Hp → Rs β} {r : Rs β} (h : x = .ok y H) (k : f y H = r) : x.bind f = r := by rw [h]; exact k
theorem bind_ex {α β : Type} {x : Rs α} {p : V} {H : Hp} {f : α → Hp → Rs β} (h : x = .exc p H) : x.bind f = .exc p H := by rw [h]; rfl
theorem q_ok {α : Type} {x : Rs α} {y : α} {H : Hp} {f : α → Hp → Z} {r : Z} (h : x = .ok y H) (k : f y H = r) : x.q f = r := by rw [h]; exact k
theorem q_ex {α : Type} {x : Rs α} {p : V} {H : Hp} {f : α → Hp → Z} (h : x = .exc p H) : x.q f = .exc p H := by rw [h]; rfl
theorem of_ok {x : Option V} (h : x = some v) : Rs.of x H = .ok v H := by rw [h]
theorem r_lit {k : Lit} : evalE F G sg (.lit k) m H = .ok (litV k) H := rfl
theorem r_neg {k : Int} : evalE F G sg (.neg k) m H = .ok (.int (-k)) H := rfl
theorem r_loc {i : Nat} (h : m[i]?.join = some v) : evalE F G sg (.loc i) m H = .ok v H := of_ok h
theorem r_glo {k : Nat} (h : G k = some v) : evalE F G sg (.glo k) m H = .ok v H := of_ok h
theorem r_attr {f : List Nat} (h1 : evalE F G sg e m H = .ok v H1) (h2 : attrV sg H1 f v = some w) : evalE F G sg (.attr e f) m H = .ok w H1 := bind_ok h1 (of_ok h2)
theorem r_call {f : Nat} (h1 : evalEs F G sg as m H = .ok vs H1) (h2 : F f vs H1 = r) : evalE F G sg (.call f as) m H = r := bind_ok h1 h2
theorem r_len {k : Nat} (h1 : evalE F G sg e m H = .ok v H1) (h2 : lenV H1 v = some k) (h3 : k ≤ big) : evalE F G sg (.len e) m H = .ok (.int k) H1 := bind_ok h1 (of_ok (by rw [h2, Option.bind_some, if_pos h3]))
theorem r_chr (h1 : evalE F G sg e m H = .ok v H1) (h2 : chrV v = some w) : evalE F G sg (.chr e) m H = .ok w H1 := bind_ok h1 (of_ok h2)
theorem r_ord (h1 : evalE F G sg e m H = .ok v H1) (h2 : ordV v = some w) : evalE F G sg (.ord e) m H = .ok w H1 := bind_ok h1 (of_ok h2)
theorem r_max {i j : Int} (h1 : evalE F G sg a m H = .ok (.int i) H1) (h2 : evalE F G sg b m H1 = .ok (.int j) H2) : evalE F G sg (.max2 a b) m H = .ok (.int (if j > i then j else i)) H2 := bind_ok h1 (bind_ok h2 rfl)
theorem r_min {i j : Int} (h1 : evalE F G sg a m H = .ok (.int i) H1) (h2 : evalE F G sg b m H1 = .ok (.int j) H2) : evalE F G sg (.min2 a b) m H = .ok (.int (if j < i then j else i)) H2 := bind_ok h1 (bind_ok h2 rfl)
theorem r_lower (h1 : evalE F G sg e m H = .ok v H1) (h2 : lowerV v = some w) : evalE F G sg (.lower e) m H = .ok w H1 := bind_ok h1 (of_ok h2)
theorem r_index {s : List Nat} (h1 : evalE F G sg a m H = .ok (.str s) H1) (h2 : evalE F G sg b m H1 = .ok v H2) (h3 : indexV (.str s) v = some w) : evalE F G sg (.index a b) m H = .ok w H2 := bind_ok h1 (bind_ok h2 (of_ok h3))
theorem r_join {s : List Nat} (h1 : evalE F G sg a m H = .ok (.str s) H1) (h2 : evalE F G sg b m H1 = .ok v H2) (h3 : joinV H2 (.str s) v = some w) : evalE F G sg (.join a b) m H = .ok w H2 := bind_ok h1 (bind_ok h2 (of_ok h3))
theorem r_dget {kvs : List (List Nat × V)} (h1 : evalE F G sg a m H = .ok (.dct kvs) H1) (h2 : evalE F G sg b m H1 = .ok v H2) (h3 : dgetV (.dct kvs) v = some w) : evalE F G sg (.dget a b) m H = .ok w H2 := bind_ok h1 (bind_ok h2 (of_ok h3))
theorem r_append (h1 : evalE F G sg a m H = .ok v H1) (h2 : isListV H1 v = true) (h3 : evalE F G sg b m H1 = .ok w H2) (h4 : appendV H2 v w = r) : evalE F G sg (.append a b) m H = r := bind_ok h1 ((if_pos h2).trans (bind_ok h3 h4))
theorem r_bin {op : Bop} (h1 : evalE F G sg a m H = .ok v H1) (h2 : evalE F G sg b m H1 = .ok w H2) (h3 : binV op v w = some z) : evalE F G sg (.bin op a b) m H = .ok z H2 := bind_ok h1 (bind_ok h2 (of_ok h3))
theorem r_cmp {op : Cop} (h1 : evalE F G sg a m H = .ok v H1) (h2 : evalE F G sg b m H1 = .ok w H2) (h3 : cmpV H2 op v w = some c) : evalE F G sg (.cmp op a b) m H = .ok (.bool c) H2 := bind_ok h1 (bind_ok h2 (of_ok (by rw [h3]; rfl)))
theorem r_cmp2F {o1 o2 : Cop} (h1 : evalE F G sg a m H = .ok v H1) (h2 : evalE F G sg b m H1 = .ok w H2) (h3 : cmpV H2 o1 v w = some false) : evalE F G sg (.cmp2 o1 o2 a b t) m H = .ok (.bool false) H2 := bind_ok h1 (bind_ok h2 (by rw [h3]))
theorem r_cmp2T {o1 o2 : Cop} (h1 : evalE F G sg a m H = .ok v H1) (h2 : evalE F G sg b m H1 = .ok w H2) (h3 : cmpV H2 o1 v w = some true) (h4 : evalE F G sg t m H2 = .ok z H3) (h5 : cmpV H3 o2 w z = some c) : evalE F G sg (.cmp2 o1 o2 a b t) m H = .ok (.bool c) H3 := bind_ok h1 (bind_ok h2 (by rw [h3]; exact bind_ok h4 (of_ok (by rw [h5]; rfl))))
/-- .. by what is known of a truth -/
theorem r_and (h1 : evalE F G sg a m H = .ok (.bool c) H1) (hc : c = d) (h2 : cond d (evalE F G sg b m H1) (.ok (.bool false) H1) = r) : evalE F G sg (.band a b) m H = r := bind_ok h1 (by subst hc; cases c <;> exact h2)
theorem r_or (h1 : evalE F G sg a m H = .ok (.bool c) H1) (hc : c = d) (h2 : cond d (.ok (.bool true) H1) (evalE F G sg b m H1) = r) : evalE F G sg (.bor a b) m H = r := bind_ok h1 (by subst hc; cases c <;> exact h2)
theorem r_not (h1 : evalE F G sg a m H = .ok (.bool c) H1) : evalE F G sg (.not a) m H = .ok (.bool (!c)) H1 := bind_ok h1 rfl
theorem r_ite (h1 : evalE F G sg t m H = .ok (.bool c) H1) (hc : c = d) (h2 : cond d (evalE F G sg a m H1) (evalE F G sg b m H1) = r) : evalE F G sg (.ite t a b) m H = r := bind_ok h1 (by subst hc; cases c <;> exact h2)
theorem r_idx (h1 : evalE F G sg a m H = .ok v H1) (h2 : evalE F G sg b m H1 = .ok w H2) (h3 : idxV H2 v w = some z) : evalE F G sg (.idx a b) m H = .ok z H2 := bind_ok h1 (bind_ok h2 (of_ok h3))
theorem r_slice (h1 : evalE F G sg e m H = .ok v H1) (h2 : evalE F G sg a m H1 = .ok w H2) (h3 : evalE F G sg b m H2 = .ok u H3) (h4 : sliceV v w u = some z) : evalE F G sg (.slice e a b) m H = .ok z H3 := bind_ok h1 (bind_ok h2 (bind_ok h3 (of_ok h4)))
theorem r_tup (h : evalEs F G sg es m H = .ok vs H1) : evalE F G sg (.tup es) m H = .ok (.tup vs) H1 := bind_ok h rfl
theorem r_lst (h : evalEs F G sg es m H = .ok vs H1) : evalE F G sg (.lst es) m H = .ok (.lst vs) H1 := bind_ok h rfl
theorem r_mlst (h : evalEs F G sg es m H = .ok vs H1) : evalE F G sg (.mlst es) m H = .ok (.obj H1.length) (H1 ++ [.list vs]) := bind_ok h rfl
theorem r_dct {ks : List (List Nat)} (h : evalEs F G sg es m H = .ok vs H1) : evalE F G sg (.dct ks es) m H = .ok (.dct (ks.zip vs)) H1 := by show (evalEs F G sg es m H).only _ = _; rw [h]; rfl
theorem r_mdct {ks : List (List Nat)} (h : evalEs F G sg es m H = .ok vs H1) : evalE F G sg (.mdct ks es) m H = .ok (.obj H1.length) (H1 ++ [.dict (ks.zip vs)]) := by show (evalEs F G sg es m H).only _ = _; rw [h]; rfl
theorem r_nil : evalEs F G sg .nil m H = .ok [] H := rfl
theorem r_cons (h1 : evalE F G sg e m H = .ok v H1) (h2 : evalEs F G sg es m H1 = .ok vs H2) : evalEs F G sg (.cons e es) m H = .ok (v :: vs) H2 := bind_ok h1 (bind_ok h2 rfl)
theorem r_meth {f i : Nat} {C : Addr} {n : List Nat} {kvs : List (List Nat × V)} (h1 : evalE F G sg e m H = .ok (.inst C i) H1) (hc : sg.cls f = some C) (hn : sg.mname f = some n) (hg : H1[i]? = some (.dict kvs)) (hk : kvGet kvs n = none) (h2 : evalEs F G sg as m H1 = .ok vs H2) (h3 : F f (.inst C i :: vs) H2 = r) : evalE F G sg (.meth e f as) m H = r :=
  bind_ok h1 (by dsimp only; rw [hc, hn, hg]; dsimp only; rw [if_pos ⟨rfl, hk⟩]; exact bind_ok h2 h3)
theorem r_new {f : Nat} {C : Addr} (h1 : evalEs F G sg as m H = .ok vs H1) (hc : sg.cls f = some C) (h2 : F f (.inst C H1.length :: vs) (H1 ++ [.dict []]) = .ok .none H2) : evalE F G sg (.new f as) m H = .ok (.inst C H1.length) H2 := bind_ok h1 (by rw [hc]; dsimp only; rw [h2])
variable {s : Sx} {ss tt bb : Sxs} {m1 m2 : Loc} {x y : Z} {ts : List Tg}
theorem s_nil : execSs F G sg W .nil m H = .next m H := rfl
theorem s_cons (h1 : execS F G sg W s m H = x) (h2 : x.then (fun m1 H1 => execSs F G sg W ss m1 H1) = y) : execSs F G sg W (.cons s ss) m H = y := by subst h1; exact h2
theorem t_next (h : execSs F G sg W ss m1 H1 = y) : (Z.next m1 H1).then (fun m1 H1 => execSs F G sg W ss m1 H1) = y := h
theorem t_ret {K : Loc → Hp → Z} : (Z.ret v H1).then K = .ret v H1 := rfl
theorem t_exc {K : Loc → Hp → Z} : (Z.exc v H1).then K = .exc v H1 := rfl
theorem q_exc {K : V → Hp → Z} : (Rs.exc v H1 : Rs V).q K = .exc v H1 := rfl
theorem q_asg {i : Nat} (h : setL m i v = m1) : (Rs.ok v H1).q (fun v H1 => .next (setL m i v) H1) = .next m1 H1 := by subst h; rfl
theorem q_ret : (Rs.ok v H1).q (fun v H1 => .ret v H1) = .ret v H1 := rfl
theorem q_expr : (Rs.ok v H1).q (fun _ H1 => .next m H1) = .next m H1 := rfl
theorem s_asg {i : Nat} (h1 : evalE F G sg e m H = r) (h2 : r.q (fun v H1 => .next (setL m i v) H1) = x) : execS F G sg W (.asg i e) m H = x := by subst h1; exact h2
theorem s_ret (h1 : evalE F G sg e m H = r) (h2 : r.q (fun v H1 => .ret v H1) = x) : execS F G sg W (.ret e) m H = x := by subst h1; exact h2
theorem s_expr (h1 : evalE F G sg e m H = r) (h2 : r.q (fun _ H1 => .next m H1) = x) : execS F G sg W (.expr e) m H = x := by subst h1; exact h2
noncomputable def asgK (F : Fns) (G : Nat → Option V) (sg : Sig) (ts : List Tg) (m : Loc) (v : V) (H1 : Hp) : Z := match v with
  | .tup vs => if vs.length = ts.length then storeT F G sg ts vs m H1 else .stuck
  | _ => .stuck
noncomputable def asgKW (is : List Nat) (m : Loc) (v : V) (H1 : Hp) : Z := match v with
  | .tup vs => if vs.length = is.length then .next (setLs m is.reverse vs.reverse) H1 else .stuck
  | _ => .stuck
theorem s_asgU (h1 : evalE F G sg e m H = r) (h2 : r.q (asgK F G sg ts m) = x) : execS F G sg W (.asgU ts e) m H = x := by subst h1; exact h2
theorem s_asgW {is : List Nat} (h1 : evalE F G sg e m H = r) (h2 : r.q (asgKW is m) = x) : execS F G sg W (.asgW is e) m H = x := by subst h1; exact h2
theorem q_asgU (hl : vs.length = ts.length) (h : storeT F G sg ts vs m H1 = x) : (Rs.ok (.tup vs) H1).q (asgK F G sg ts m) = x := (if_pos hl).trans h
theorem q_asgW {is : List Nat} (hl : vs.length = is.length) (h : setLs m is.reverse vs.reverse = m1) : (Rs.ok (.tup vs) H1).q (asgKW is m) = .next m1 H1 := by subst h; exact if_pos hl
theorem st_nil : storeT F G sg [] [] m H = .next m H := rfl
theorem st_loc {i : Nat} (h1 : setL m i v = m1) (h2 : storeT F G sg ts vs m1 H = x) : storeT F G sg (.loc i :: ts) (v :: vs) m H = x := by subst h1; exact h2
theorem st_sub (h1 : evalE F G sg a m H = .ok w H1) (h2 : evalE F G sg b m H1 = .ok z H2) (h3 : setIdxV H2 w z v = some H3) (h4 : storeT F G sg ts vs m H3 = x) : storeT F G sg (.sub a b :: ts) (v :: vs) m H = x := q_ok h1 (q_ok h2 (by rw [h3]; exact h4))
theorem s_setattr {f : List Nat} (h1 : evalE F G sg e m H = .ok v H1) (h2 : evalE F G sg a m H1 = .ok w H2) (h3 : setAttrV sg H2 w f v = some H3) : execS F G sg W (.setattr a f e) m H = .next m H3 := q_ok h1 (q_ok h2 (by rw [h3]))
theorem s_augattr {f : List Nat} (h1 : evalE F G sg a m H = .ok w H1) (h2 : attrV sg H1 f w = some u) (h3 : evalE F G sg e m H1 = .ok v H2) (h4 : iaddV u v = some z) (h5 : setAttrV sg H2 w f z = some H3) : execS F G sg W (.augattr a f e) m H = .next m H3 := q_ok h1 (q_ok (of_ok h2) (q_ok h3 (q_ok (of_ok h4) (by rw [h5]))))
theorem s_augloc {i : Nat} (h0 : m[i]?.join = some u) (h1 : evalE F G sg e m H = .ok v H1) (h2 : iaddV u v = some z) (h3 : setL m i z = m1) : execS F G sg W (.augloc i e) m H = .next m1 H1 := by subst h3; exact q_ok (of_ok h0) (q_ok h1 (q_ok (of_ok h2) rfl))
theorem s_setidx (h1 : evalE F G sg e m H = .ok v H1) (h2 : evalE F G sg a m H1 = .ok w H2) (h3 : evalE F G sg b m H2 = .ok z H3) {H4 : Hp} (h4 : setIdxV H3 w z v = some H4) : execS F G sg W (.setidx a b e) m H = .next m H4 := q_ok h1 (q_ok h2 (q_ok h3 (by rw [h4])))
theorem s_ife (h1 : evalE F G sg t m H = .ok (.bool c) H1) (hc : c = d) (h2 : cond d (execSs F G sg W tt m H1) (execSs F G sg W bb m H1) = x) : execS F G sg W (.ife t tt bb) m H = x := q_ok h1 (by subst hc; cases c <;> exact h2)
theorem s_whl (h : loopW (evalE F G sg t) (fun m H => execSs F G sg W bb m H) W m H = x) : execS F G sg W (.whl t bb) m H = x := h
theorem s_fors {i : Nat} (h1 : evalE F G sg e m H = .ok v H1) (h2 : itemsF v = some vs) (h3 : loopF (fun m v => some (setL m i v)) (fun m H => execSs F G sg W bb m H) vs m H1 = x) : execS F G sg W (.fors i e bb) m H = x := q_ok h1 (by rw [h2]; exact h3)
theorem s_forR {i : Nat} {k : Int} (h1 : evalE F G sg e m H = .ok (.int k) H1) (h2 : 0 ≤ k ∧ k ≤ big) (h3 : loopF (fun m v => some (setL m i v)) (fun m H => execSs F G sg W bb m H) ((List.range k.toNat).map fun (k : Nat) => .int k) m H1 = x) : execS F G sg W (.forR i e bb) m H = x := q_ok h1 ((if_pos h2).trans h3)
theorem s_forT {is : List Nat} (h1 : evalE F G sg e m H = .ok (.tup vs) H1) (h2 : vs.length ≤ big) (h3 : loopF (bindT is) (fun m H => execSs F G sg W bb m H) vs m H1 = x) : execS F G sg W (.forT is e bb) m H = x := q_ok h1 ((if_pos h2).trans h3)
theorem lf_nil {B : Loc → V → Option Loc} {K : Loc → Hp → Z} : loopF B K [] m H = .next m H := rfl
theorem lf_cons {B : Loc → V → Option Loc} (h1 : B m v = some m1) (h2 : execSs F G sg W bb m1 H = y) (h3 : y.then (fun m2 H2 => loopF B (fun m H => execSs F G sg W bb m H) vs m2 H2) = x) : loopF B (fun m H => execSs F G sg W bb m H) (v :: vs) m H = x := by
  show (match B m v with | some m1 => _ | none => _) = _
  rw [h1]; subst h2; exact h3
theorem lf_next {B : Loc → V → Option Loc} {K : Loc → Hp → Z} (h : loopF B K vs m1 H1 = x) : (Z.next m1 H1).then (fun m2 H2 => loopF B K vs m2 H2) = x := h
theorem s_raise (h1 : evalE F G sg a m H = .ok v H1) (h2 : evalE F G sg b m H1 = .ok p H2) : execS F G sg W (.raise a b) m H = .exc p H2 := q_ok h1 (q_ok h2 rfl)
theorem s_try (h1 : evalE F G sg e m H = .ok v H1) : execS F G sg W (.tryPlace e) m H = .ret v H1 := by show (match evalE F G sg e m H with | .ok v H1 => _ | .exc p H1 => _ | .stuck => _) = _; rw [h1]
theorem s_tryX (h1 : evalE F G sg e m H = .exc p H1) (h2 : noGlob p = true) : execS F G sg W (.tryPlace e) m H = .ret p H1 := by show (match evalE F G sg e m H with | .ok v H1 => _ | .exc p H1 => (if noGlob p then Z.ret p H1 else .stuck) | .stuck => _) = _; rw [h1]; exact if_pos h2
/-- a loop's turns -/
theorem lw_end {k : Nat} (h1 : evalE F G sg t m H = .ok (.bool false) H1) : loopW (evalE F G sg t) (fun m H => execSs F G sg W bb m H) (k + 1) m H = .next m H1 := q_ok h1 rfl
theorem lw_turn {k : Nat} (h1 : evalE F G sg t m H = .ok (.bool true) H1) (h2 : execSs F G sg W bb m H1 = x) (h3 : x.then (fun m2 H2 => loopW (evalE F G sg t) (fun m H => execSs F G sg W bb m H) k m2 H2) = y) : loopW (evalE F G sg t) (fun m H => execSs F G sg W bb m H) (k + 1) m H = y := q_ok h1 (by subst h2; exact h3)
theorem dT {c : Bool} (h : c = true) : c = true := h
theorem dF {c : Bool} (h : c = false) : c = false := h
end
end
-- B2
section
open PySem PySem.W PyProof.Rows PySem.Calls PySem.SeqAt
/-- Word.__init__ -/
noncomputable abbrev p_WordInitB : Sxs :=
  (.cons (.setattr (.loc 0) [107, 105, 110, 100] (.loc 1))
  (.cons (.setattr (.loc 0) [116, 101, 120, 116] (.loc 2))
  (.cons (.setattr (.loc 0) [108, 105, 110, 101] (.loc 3))
  (.cons (.setattr (.loc 0) [99, 111, 108, 117, 109, 110] (.loc 4))
  (.cons (.setattr (.loc 0) [118, 97, 108, 117, 101] (.loc 5))
  (.cons (.setattr (.loc 0) [105, 115, 95, 102, 105, 114, 115, 116] (.loc 6))
  .nil))))))
noncomputable abbrev p_WordInit : Fn := ⟨73, ["self", "kind", "text", "line", "column", "value", "is_first"], 7, [.none, .bool false], p_WordInitB⟩
/-- Signs.__init__ -/
noncomputable abbrev p_SignsInitB : Sxs :=
  (.cons (.setattr (.loc 0) [116, 101, 120, 116] (.loc 1))
  (.cons (.setattr (.loc 0) [97, 116] (.lit (.int 0)))
  (.cons (.setattr (.loc 0) [108, 105, 110, 101] (.lit (.int 1)))
  (.cons (.setattr (.loc 0) [99, 111, 108, 117, 109, 110] (.lit (.int 1)))
  .nil))))
noncomputable abbrev p_SignsInit : Fn := ⟨108, ["self", "text"], 2, [], p_SignsInitB⟩
/-- Signs.sign -/
noncomputable abbrev p_Signs_signB : Sxs :=
  (.cons (.asg 2 (.bin .add (.attr (.loc 0) [97, 116]) (.loc 1)))
  (.cons (.ret (.ite (.cmp .lt (.loc 2) (.len (.attr (.loc 0) [116, 101, 120, 116]))) (.idx (.attr (.loc 0) [116, 101, 120, 116]) (.loc 2)) (.lit (.str []))))
  .nil))
noncomputable abbrev p_Signs_sign : Fn := ⟨116, ["self", "ahead", "place"], 2, [.int 0], p_Signs_signB⟩
/-- Signs.starts -/
noncomputable abbrev p_Signs_startsB : Sxs :=
  (.cons (.ret (.cmp .eq (.slice (.attr (.loc 0) [116, 101, 120, 116]) (.attr (.loc 0) [97, 116]) (.bin .add (.attr (.loc 0) [97, 116]) (.len (.loc 1)))) (.loc 1)))
  .nil)
noncomputable abbrev p_Signs_starts : Fn := ⟨123, ["self", "some"], 2, [], p_Signs_startsB⟩
/-- Signs.step -/
noncomputable abbrev p_Signs_stepB : Sxs :=
  (.cons (.asg 1 (.meth (.loc 0) 2 .nil))
  (.cons (.augattr (.loc 0) [97, 116] (.lit (.int 1)))
  (.cons (.ife (.cmp .eq (.loc 1) (.lit (.str [10])))
    (.cons (.augattr (.loc 0) [108, 105, 110, 101] (.lit (.int 1)))
    (.cons (.setattr (.loc 0) [99, 111, 108, 117, 109, 110] (.lit (.int 1)))
    .nil))
    (.cons (.ife (.cmp .eq (.loc 1) (.lit (.str [9])))
      (.cons (.setattr (.loc 0) [99, 111, 108, 117, 109, 110] (.bin .add (.bin .add (.bin .mul (.bin .fdiv (.bin .sub (.attr (.loc 0) [99, 111, 108, 117, 109, 110]) (.lit (.int 1))) (.glo 7)) (.glo 7)) (.glo 7)) (.lit (.int 1))))
      .nil)
      (.cons (.augattr (.loc 0) [99, 111, 108, 117, 109, 110] (.lit (.int 1)))
      .nil))
    .nil))
  (.cons (.ret (.loc 1))
  .nil))))
noncomputable abbrev p_Signs_step : Fn := ⟨130, ["self", "found"], 1, [], p_Signs_stepB⟩
noncomputable abbrev p_Signs_take_T1 : Ex :=
  (.band (.cmp .ne (.meth (.loc 0) 2 .nil) (.lit (.str []))) (.cmp .isin (.meth (.loc 0) 2 .nil) (.loc 1)))
noncomputable abbrev p_Signs_take_L1 : Sxs :=
  (.cons (.expr (.meth (.loc 0) 4 .nil))
  .nil)
/-- Signs.take -/
noncomputable abbrev p_Signs_takeB : Sxs :=
  (.cons (.asg 2 (.attr (.loc 0) [97, 116]))
  (.cons (.whl p_Signs_take_T1 p_Signs_take_L1)
  (.cons (.ret (.slice (.attr (.loc 0) [116, 101, 120, 116]) (.loc 2) (.attr (.loc 0) [97, 116])))
  .nil)))
noncomputable abbrev p_Signs_take : Fn := ⟨137, ["self", "letters", "begin"], 2, [], p_Signs_takeB⟩
/-- Signs.place -/
noncomputable abbrev p_Signs_placeB : Sxs :=
  (.cons (.ret (.tup (.cons (.attr (.loc 0) [108, 105, 110, 101]) (.cons (.attr (.loc 0) [99, 111, 108, 117, 109, 110]) .nil))))
  .nil)
noncomputable abbrev p_Signs_place : Fn := ⟨144, ["self"], 1, [], p_Signs_placeB⟩
/-- is_among -/
noncomputable abbrev p_is_amongB : Sxs :=
  (.cons (.ret (.band (.cmp .ne (.loc 0) (.lit (.str []))) (.cmp .isin (.loc 0) (.loc 1))))
  .nil)
noncomputable abbrev p_is_among : Fn := ⟨158, ["sign", "letters"], 2, [], p_is_amongB⟩
/-- name_letters -/
noncomputable abbrev p_name_lettersB : Sxs :=
  (.cons (.ret (.bin .add (.bin .add (.bin .add (.glo 4) (.glo 5)) (.glo 6)) (.lit (.str [39]))))
  .nil)
noncomputable abbrev p_name_letters : Fn := ⟨165, [], 0, [], p_name_lettersB⟩
noncomputable abbrev p_is_line_comment_T1 : Ex :=
  (.cmp .eq (.meth (.loc 0) 2 (.cons (.loc 1) .nil)) (.lit (.str [45])))
noncomputable abbrev p_is_line_comment_L1 : Sxs :=
  (.cons (.augloc 1 (.lit (.int 1)))
  .nil)
/-- is_line_comment -/
noncomputable abbrev p_is_line_commentB : Sxs :=
  (.cons (.ife (.not (.meth (.loc 0) 3 (.cons (.lit (.str [45, 45])) .nil)))
    (.cons (.ret (.lit (.bool false)))
    .nil)
    .nil)
  (.cons (.asg 1 (.lit (.int 2)))
  (.cons (.whl p_is_line_comment_T1 p_is_line_comment_L1)
  (.cons (.ret (.not (.call 7 (.cons (.meth (.loc 0) 2 (.cons (.loc 1) .nil)) (.cons (.glo 3) .nil)))))
  .nil))))
noncomputable abbrev p_is_line_comment : Fn := ⟨172, ["signs", "ahead"], 1, [], p_is_line_commentB⟩
noncomputable abbrev p_skip_nested_T1 : Ex :=
  (.loc 3)
noncomputable abbrev p_skip_nested_L1 : Sxs :=
  (.cons (.ife (.cmp .eq (.meth (.loc 0) 2 .nil) (.lit (.str [])))
    (.cons (.raise (.lit (.str [97, 32, 99, 111, 109, 109, 101, 110, 116, 32, 104, 97, 115, 32, 110, 111, 32, 101, 110, 100])) (.loc 1))
    .nil)
    .nil)
  (.cons (.ife (.bor (.meth (.loc 0) 3 (.cons (.lit (.str [123, 45])) .nil)) (.meth (.loc 0) 3 (.cons (.lit (.str [45, 125])) .nil)))
    (.cons (.augloc 2 (.ite (.meth (.loc 0) 3 (.cons (.lit (.str [123, 45])) .nil)) (.lit (.int 1)) (.neg 1)))
    (.cons (.expr (.meth (.loc 0) 4 .nil))
    .nil))
    .nil)
  (.cons (.expr (.meth (.loc 0) 4 .nil))
  (.cons (.asg 3 (.cmp .gt (.loc 2) (.lit (.int 0))))
  .nil))))
/-- skip_nested -/
noncomputable abbrev p_skip_nestedB : Sxs :=
  (.cons (.asg 1 (.meth (.loc 0) 6 .nil))
  (.cons (.asg 2 (.lit (.int 0)))
  (.cons (.asg 3 (.lit (.bool true)))
  (.cons (.whl p_skip_nested_T1 p_skip_nested_L1)
  .nil))))
noncomputable abbrev p_skip_nested : Fn := ⟨179, ["signs", "place", "depth", "going"], 1, [], p_skip_nestedB⟩
noncomputable abbrev p_skip_between_T1 : Ex :=
  (.cmp .notin (.meth (.loc 0) 2 .nil) (.tup (.cons (.lit (.str [])) (.cons (.lit (.str [10])) .nil))))
noncomputable abbrev p_skip_between_L1 : Sxs :=
  (.cons (.expr (.meth (.loc 0) 4 .nil))
  .nil)
noncomputable abbrev p_skip_between_T2 : Ex :=
  (.loc 2)
noncomputable abbrev p_skip_between_L2 : Sxs :=
  (.cons (.ife (.call 7 (.cons (.meth (.loc 0) 2 .nil) (.cons (.lit (.str [32, 9, 10, 13, 12, 11])) .nil)))
    (.cons (.expr (.meth (.loc 0) 4 .nil))
    .nil)
    (.cons (.ife (.call 9 (.cons (.loc 0) .nil))
      (.cons (.whl p_skip_between_T1 p_skip_between_L1)
      .nil)
      (.cons (.ife (.meth (.loc 0) 3 (.cons (.lit (.str [123, 45])) .nil))
        (.cons (.expr (.call 10 (.cons (.loc 0) .nil)))
        .nil)
        (.cons (.asg 2 (.lit (.bool false)))
        .nil))
      .nil))
    .nil))
  .nil)
/-- skip_between -/
noncomputable abbrev p_skip_betweenB : Sxs :=
  (.cons (.asg 1 (.attr (.loc 0) [108, 105, 110, 101]))
  (.cons (.asg 2 (.lit (.bool true)))
  (.cons (.whl p_skip_between_T2 p_skip_between_L2)
  (.cons (.ret (.cmp .gt (.attr (.loc 0) [108, 105, 110, 101]) (.loc 1)))
  .nil))))
noncomputable abbrev p_skip_between : Fn := ⟨186, ["signs", "line", "going"], 1, [], p_skip_betweenB⟩
noncomputable abbrev p_number_of_L1 : Sxs :=
  (.cons (.asg 2 (.bin .add (.bin .mul (.loc 2) (.loc 1)) (.index (.lit (.str [48, 49, 50, 51, 52, 53, 54, 55, 56, 57, 97, 98, 99, 100, 101, 102])) (.lower (.loc 3)))))
  .nil)
/-- number_of -/
noncomputable abbrev p_number_ofB : Sxs :=
  (.cons (.asg 2 (.lit (.int 0)))
  (.cons (.fors 3 (.loc 0)
    p_number_of_L1)
  (.cons (.ret (.loc 2))
  .nil)))
noncomputable abbrev p_number_of : Fn := ⟨193, ["digits", "base", "found", "digit"], 2, [], p_number_ofB⟩
/-- based_number -/
noncomputable abbrev p_based_numberB : Sxs :=
  (.cons (.asg 1 (.dget (.dct [[120], [111]] (.cons (.bin .add (.glo 6) (.lit (.str [97, 98, 99, 100, 101, 102, 65, 66, 67, 68, 69, 70]))) (.cons (.lit (.str [48, 49, 50, 51, 52, 53, 54, 55])) .nil))) (.ite (.cmp .eq (.meth (.loc 0) 2 .nil) (.lit (.str [48]))) (.lower (.meth (.loc 0) 2 (.cons (.lit (.int 1)) .nil))) (.lit (.str [])))))
  (.cons (.ife (.bor (.cmp .is (.loc 1) (.lit .none)) (.not (.call 7 (.cons (.meth (.loc 0) 2 (.cons (.lit (.int 2)) .nil)) (.cons (.loc 1) .nil)))))
    (.cons (.ret (.lit .none))
    .nil)
    .nil)
  (.cons (.asg 2 (.ite (.cmp .eq (.lower (.meth (.loc 0) 2 (.cons (.lit (.int 1)) .nil))) (.lit (.str [120]))) (.lit (.int 16)) (.lit (.int 8))))
  (.cons (.expr (.meth (.loc 0) 4 .nil))
  (.cons (.expr (.meth (.loc 0) 4 .nil))
  (.cons (.ret (.call 12 (.cons (.meth (.loc 0) 5 (.cons (.loc 1) .nil)) (.cons (.loc 2) .nil))))
  .nil))))))
noncomputable abbrev p_based_number : Fn := ⟨200, ["signs", "letters", "base"], 1, [], p_based_numberB⟩
/-- read_number -/
noncomputable abbrev p_read_numberB : Sxs :=
  (.cons (.asg 1 (.call 13 (.cons (.loc 0) .nil)))
  (.cons (.ret (.ite (.cmp .is (.loc 1) (.lit .none)) (.call 12 (.cons (.meth (.loc 0) 5 (.cons (.glo 6) .nil)) (.cons (.lit (.int 10)) .nil))) (.loc 1)))
  .nil))
noncomputable abbrev p_read_number : Fn := ⟨207, ["signs", "found"], 1, [], p_read_numberB⟩
/-- checked_sign -/
noncomputable abbrev p_checked_signB : Sxs :=
  (.cons (.ife (.cmp .gt (.loc 0) (.glo 8))
    (.cons (.raise (.lit (.str [110, 111, 32, 115, 105, 103, 110, 32, 104, 97, 115, 32, 116, 104, 105, 115, 32, 110, 117, 109, 98, 101, 114])) (.loc 1))
    .nil)
    .nil)
  (.cons (.ret (.chr (.loc 0)))
  .nil))
noncomputable abbrev p_checked_sign : Fn := ⟨214, ["number", "place"], 2, [], p_checked_signB⟩
noncomputable abbrev p_named_escape_L1 : Sxs :=
  (.cons (.ife (.band (.meth (.loc 0) 3 (.cons (.idx (.glo 10) (.loc 3)) .nil)) (.cmp .gt (.len (.idx (.glo 10) (.loc 3))) (.len (.loc 1))))
    (.cons (.asgW [1, 2] (.tup (.cons (.idx (.glo 10) (.loc 3)) (.cons (.loc 3) .nil))))
    .nil)
    .nil)
  .nil)
noncomputable abbrev p_named_escape_L2 : Sxs :=
  (.cons (.expr (.meth (.loc 0) 4 .nil))
  .nil)
/-- named_escape -/
noncomputable abbrev p_named_escapeB : Sxs :=
  (.cons (.asgU [.loc 1, .loc 2] (.tup (.cons (.lit (.str [])) (.cons (.lit .none) .nil))))
  (.cons (.forR 3 (.len (.glo 10))
    p_named_escape_L1)
  (.cons (.ife (.meth (.loc 0) 3 (.cons (.lit (.str [68, 69, 76])) .nil))
    (.cons (.asgW [1, 2] (.tup (.cons (.lit (.str [68, 69, 76])) (.cons (.glo 11) .nil))))
    .nil)
    .nil)
  (.cons (.forR 4 (.len (.loc 1))
    p_named_escape_L2)
  (.cons (.ret (.ite (.cmp .is (.loc 2) (.lit .none)) (.lit .none) (.chr (.loc 2))))
  .nil)))))
noncomputable abbrev p_named_escape : Fn := ⟨221, ["signs", "best", "number", "at", "turn"], 1, [], p_named_escapeB⟩
noncomputable abbrev p_read_escape_L1 : Sxs :=
  (.cons (.ife (.band (.cmp .eq (.loc 2) (.loc 3)) (.call 7 (.cons (.meth (.loc 0) 2 (.cons (.lit (.int 1)) .nil)) (.cons (.loc 4) .nil))))
    (.cons (.expr (.meth (.loc 0) 4 .nil))
    (.cons (.ret (.call 15 (.cons (.call 12 (.cons (.meth (.loc 0) 5 (.cons (.loc 4) .nil)) (.cons (.loc 5) .nil))) (.cons (.loc 1) .nil))))
    .nil))
    .nil)
  .nil)
/-- read_escape -/
noncomputable abbrev p_read_escapeB : Sxs :=
  (.cons (.asg 1 (.meth (.loc 0) 6 .nil))
  (.cons (.asg 2 (.meth (.loc 0) 2 .nil))
  (.cons (.ife (.call 7 (.cons (.loc 2) (.cons (.glo 6) .nil)))
    (.cons (.ret (.call 15 (.cons (.call 12 (.cons (.meth (.loc 0) 5 (.cons (.glo 6) .nil)) (.cons (.lit (.int 10)) .nil))) (.cons (.loc 1) .nil))))
    .nil)
    .nil)
  (.cons (.forT [3, 4, 5] (.tup (.cons (.tup (.cons (.lit (.str [120])) (.cons (.bin .add (.glo 6) (.lit (.str [97, 98, 99, 100, 101, 102, 65, 66, 67, 68, 69, 70]))) (.cons (.lit (.int 16)) .nil)))) (.cons (.tup (.cons (.lit (.str [111])) (.cons (.lit (.str [48, 49, 50, 51, 52, 53, 54, 55])) (.cons (.lit (.int 8)) .nil)))) .nil)))
    p_read_escape_L1)
  (.cons (.ife (.band (.cmp .eq (.loc 2) (.lit (.str [94]))) (.cmp2 .le .le (.lit (.str [64])) (.meth (.loc 0) 2 (.cons (.lit (.int 1)) .nil)) (.lit (.str [95]))))
    (.cons (.expr (.meth (.loc 0) 4 .nil))
    (.cons (.ret (.chr (.bin .sub (.ord (.meth (.loc 0) 4 .nil)) (.lit (.int 64)))))
    .nil))
    .nil)
  (.cons (.ife (.band (.cmp .ne (.loc 2) (.lit (.str []))) (.cmp .isin (.loc 2) (.glo 9)))
    (.cons (.expr (.meth (.loc 0) 4 .nil))
    (.cons (.ret (.chr (.idx (.glo 9) (.loc 2))))
    .nil))
    .nil)
  (.cons (.asg 6 (.call 16 (.cons (.loc 0) .nil)))
  (.cons (.ife (.cmp .is (.loc 6) (.lit .none))
    (.cons (.raise (.lit (.str [97, 32, 98, 97, 99, 107, 115, 108, 97, 115, 104, 32, 116, 104, 97, 116, 32, 116, 101, 108, 108, 115, 32, 110, 111, 32, 115, 105, 103, 110])) (.loc 1))
    .nil)
    .nil)
  (.cons (.ret (.loc 6))
  .nil)))))))))
noncomputable abbrev p_read_escape : Fn := ⟨228, ["signs", "place", "sign", "letter", "letters", "base", "found"], 1, [], p_read_escapeB⟩
/-- read_char -/
noncomputable abbrev p_read_charB : Sxs :=
  (.cons (.asg 1 (.meth (.loc 0) 6 .nil))
  (.cons (.expr (.meth (.loc 0) 4 .nil))
  (.cons (.asg 2 (.meth (.loc 0) 4 .nil))
  (.cons (.ife (.cmp .isin (.loc 2) (.tup (.cons (.lit (.str [])) (.cons (.lit (.str [10])) (.cons (.lit (.str [39])) .nil)))))
    (.cons (.raise (.lit (.str [110, 111, 32, 115, 105, 103, 110, 32, 98, 101, 116, 119, 101, 101, 110, 32, 113, 117, 111, 116, 101, 115])) (.loc 1))
    .nil)
    .nil)
  (.cons (.ife (.cmp .eq (.loc 2) (.lit (.str [92])))
    (.cons (.asg 2 (.call 17 (.cons (.loc 0) .nil)))
    .nil)
    .nil)
  (.cons (.ife (.cmp .ne (.meth (.loc 0) 4 .nil) (.lit (.str [39])))
    (.cons (.raise (.lit (.str [97, 32, 115, 105, 103, 110, 32, 98, 101, 116, 119, 101, 101, 110, 32, 113, 117, 111, 116, 101, 115, 32, 104, 97, 115, 32, 110, 111, 32, 101, 110, 100])) (.loc 1))
    .nil)
    .nil)
  (.cons (.ret (.loc 2))
  .nil)))))))
noncomputable abbrev p_read_char : Fn := ⟨235, ["signs", "place", "sign"], 1, [], p_read_charB⟩
/-- skip_gap -/
noncomputable abbrev p_skip_gapB : Sxs :=
  (.cons (.expr (.meth (.loc 0) 5 (.cons (.lit (.str [32, 9, 10, 13, 12, 11])) .nil)))
  (.cons (.ife (.cmp .ne (.meth (.loc 0) 4 .nil) (.lit (.str [92])))
    (.cons (.raise (.lit (.str [97, 32, 103, 97, 112, 32, 105, 110, 32, 97, 32, 116, 101, 120, 116, 32, 104, 97, 115, 32, 110, 111, 32, 101, 110, 100])) (.loc 1))
    .nil)
    .nil)
  .nil))
noncomputable abbrev p_skip_gap : Fn := ⟨242, ["signs", "place"], 2, [], p_skip_gapB⟩
noncomputable abbrev p_read_text_T1 : Ex :=
  (.cmp .ne (.meth (.loc 0) 2 .nil) (.lit (.str [34])))
noncomputable abbrev p_read_text_L1 : Sxs :=
  (.cons (.asg 3 (.meth (.loc 0) 4 .nil))
  (.cons (.ife (.cmp .isin (.loc 3) (.tup (.cons (.lit (.str [])) (.cons (.lit (.str [10])) .nil))))
    (.cons (.raise (.lit (.str [97, 32, 116, 101, 120, 116, 32, 104, 97, 115, 32, 110, 111, 32, 101, 110, 100])) (.loc 1))
    .nil)
    .nil)
  (.cons (.ife (.cmp .ne (.loc 3) (.lit (.str [92])))
    (.cons (.expr (.append (.loc 2) (.loc 3)))
    .nil)
    (.cons (.ife (.cmp .eq (.meth (.loc 0) 2 .nil) (.lit (.str [38])))
      (.cons (.expr (.meth (.loc 0) 4 .nil))
      .nil)
      (.cons (.ife (.call 7 (.cons (.meth (.loc 0) 2 .nil) (.cons (.lit (.str [32, 9, 10, 13, 12, 11])) .nil)))
        (.cons (.expr (.call 19 (.cons (.loc 0) (.cons (.loc 1) .nil))))
        .nil)
        (.cons (.expr (.append (.loc 2) (.call 17 (.cons (.loc 0) .nil))))
        .nil))
      .nil))
    .nil))
  .nil)))
/-- read_text -/
noncomputable abbrev p_read_textB : Sxs :=
  (.cons (.asg 1 (.meth (.loc 0) 6 .nil))
  (.cons (.expr (.meth (.loc 0) 4 .nil))
  (.cons (.asg 2 (.mlst .nil))
  (.cons (.whl p_read_text_T1 p_read_text_L1)
  (.cons (.expr (.meth (.loc 0) 4 .nil))
  (.cons (.ret (.join (.lit (.str [])) (.loc 2)))
  .nil))))))
noncomputable abbrev p_read_text : Fn := ⟨249, ["signs", "place", "found", "sign"], 1, [], p_read_textB⟩
/-- symbol_kind -/
noncomputable abbrev p_symbol_kindB : Sxs :=
  (.cons (.ife (.cmp .isin (.loc 0) (.glo 1))
    (.cons (.ret (.lit (.str [111, 112])))
    .nil)
    .nil)
  (.cons (.ret (.ite (.cmp .eq (.idx (.loc 0) (.lit (.int 0))) (.lit (.str [58]))) (.lit (.str [99, 111, 110, 115, 121, 109])) (.lit (.str [118, 97, 114, 115, 121, 109]))))
  .nil))
noncomputable abbrev p_symbol_kind : Fn := ⟨256, ["text"], 1, [], p_symbol_kindB⟩
noncomputable abbrev p_behind_point_T1 : Ex :=
  (.call 7 (.cons (.meth (.loc 0) 2 (.cons (.loc 2) .nil)) (.cons (.call 8 .nil) .nil)))
noncomputable abbrev p_behind_point_L1 : Sxs :=
  (.cons (.augloc 2 (.lit (.int 1)))
  .nil)
/-- behind_point -/
noncomputable abbrev p_behind_pointB : Sxs :=
  (.cons (.ife (.cmp .ne (.meth (.loc 0) 2 .nil) (.lit (.str [46])))
    (.cons (.ret (.lit .none))
    .nil)
    .nil)
  (.cons (.asg 1 (.meth (.loc 0) 2 (.cons (.lit (.int 1)) .nil)))
  (.cons (.ife (.call 7 (.cons (.loc 1) (.cons (.glo 5) .nil)))
    (.cons (.ret (.lit (.str [99, 111, 110])))
    .nil)
    .nil)
  (.cons (.ife (.call 7 (.cons (.loc 1) (.cons (.glo 3) .nil)))
    (.cons (.ret (.lit (.str [115, 121, 109])))
    .nil)
    .nil)
  (.cons (.ife (.not (.call 7 (.cons (.loc 1) (.cons (.glo 4) .nil))))
    (.cons (.ret (.lit .none))
    .nil)
    .nil)
  (.cons (.asg 2 (.lit (.int 1)))
  (.cons (.whl p_behind_point_T1 p_behind_point_L1)
  (.cons (.ret (.ite (.cmp .isin (.slice (.attr (.loc 0) [116, 101, 120, 116]) (.bin .add (.attr (.loc 0) [97, 116]) (.lit (.int 1))) (.bin .add (.attr (.loc 0) [97, 116]) (.loc 2))) (.glo 0)) (.lit .none) (.lit (.str [118, 97, 114]))))
  .nil))))))))
noncomputable abbrev p_behind_point : Fn := ⟨263, ["signs", "sign", "ahead"], 1, [], p_behind_pointB⟩
noncomputable abbrev p_read_great_name_T1 : Ex :=
  (.cmp .isnot (.loc 3) (.lit .none))
noncomputable abbrev p_read_great_name_L1 : Sxs :=
  (.cons (.ife (.band (.cmp .eq (.loc 3) (.lit (.str [115, 121, 109]))) (.cmp .eq (.call 21 (.cons (.call 24 (.cons (.loc 0) .nil)) .nil)) (.lit (.str [111, 112]))))
    (.cons (.asg 3 (.lit .none))
    .nil)
    (.cons (.expr (.append (.loc 1) (.loc 2)))
    (.cons (.expr (.meth (.loc 0) 4 .nil))
    (.cons (.ife (.cmp .ne (.loc 3) (.lit (.str [99, 111, 110])))
      (.cons (.asg 2 (.meth (.loc 0) 5 (.cons (.ite (.cmp .eq (.loc 3) (.lit (.str [115, 121, 109]))) (.glo 3) (.call 8 .nil)) .nil)))
      (.cons (.asg 4 (.ite (.cmp .eq (.loc 3) (.lit (.str [118, 97, 114]))) (.lit (.str [118, 97, 114])) (.call 21 (.cons (.loc 2) .nil))))
      (.cons (.ret (.tup (.cons (.loc 4) (.cons (.loc 2) (.cons (.join (.lit (.str [46])) (.loc 1)) .nil)))))
      .nil)))
      .nil)
    (.cons (.asg 2 (.meth (.loc 0) 5 (.cons (.call 8 .nil) .nil)))
    (.cons (.asg 3 (.call 22 (.cons (.loc 0) .nil)))
    .nil))))))
  .nil)
/-- read_great_name -/
noncomputable abbrev p_read_great_nameB : Sxs :=
  (.cons (.asg 1 (.mlst .nil))
  (.cons (.asg 2 (.meth (.loc 0) 5 (.cons (.call 8 .nil) .nil)))
  (.cons (.asg 3 (.call 22 (.cons (.loc 0) .nil)))
  (.cons (.whl p_read_great_name_T1 p_read_great_name_L1)
  (.cons (.ret (.tup (.cons (.lit (.str [99, 111, 110])) (.cons (.loc 2) (.cons (.ite (.cmp .ne (.loc 1) (.lst .nil)) (.join (.lit (.str [46])) (.loc 1)) (.lit .none)) .nil)))))
  .nil)))))
noncomputable abbrev p_read_great_name : Fn := ⟨270, ["signs", "modules", "name", "behind", "kind"], 1, [], p_read_great_nameB⟩
noncomputable abbrev p_symbols_ahead_T1 : Ex :=
  (.call 7 (.cons (.meth (.loc 0) 2 (.cons (.loc 1) .nil)) (.cons (.glo 3) .nil)))
noncomputable abbrev p_symbols_ahead_L1 : Sxs :=
  (.cons (.augloc 1 (.lit (.int 1)))
  .nil)
/-- symbols_ahead -/
noncomputable abbrev p_symbols_aheadB : Sxs :=
  (.cons (.asg 1 (.lit (.int 1)))
  (.cons (.whl p_symbols_ahead_T1 p_symbols_ahead_L1)
  (.cons (.ret (.slice (.attr (.loc 0) [116, 101, 120, 116]) (.bin .add (.attr (.loc 0) [97, 116]) (.lit (.int 1))) (.bin .add (.attr (.loc 0) [97, 116]) (.loc 1))))
  .nil)))
noncomputable abbrev p_symbols_ahead : Fn := ⟨277, ["signs", "ahead"], 1, [], p_symbols_aheadB⟩
/-- read_word -/
noncomputable abbrev p_read_wordB : Sxs :=
  (.cons (.asg 1 (.meth (.loc 0) 2 .nil))
  (.cons (.ife (.cmp .eq (.loc 1) (.lit (.str [])))
    (.cons (.ret (.tup (.cons (.lit (.str [101, 110, 100])) (.cons (.lit (.str [])) (.cons (.lit .none) .nil)))))
    .nil)
    .nil)
  (.cons (.ife (.call 7 (.cons (.loc 1) (.cons (.glo 2) .nil)))
    (.cons (.ret (.tup (.cons (.lit (.str [115, 112, 101, 99, 105, 97, 108])) (.cons (.meth (.loc 0) 4 .nil) (.cons (.lit .none) .nil)))))
    .nil)
    .nil)
  (.cons (.ife (.call 7 (.cons (.loc 1) (.cons (.glo 6) .nil)))
    (.cons (.asg 2 (.attr (.loc 0) [97, 116]))
    (.cons (.asg 3 (.call 14 (.cons (.loc 0) .nil)))
    (.cons (.ret (.tup (.cons (.lit (.str [105, 110, 116])) (.cons (.slice (.attr (.loc 0) [116, 101, 120, 116]) (.loc 2) (.attr (.loc 0) [97, 116])) (.cons (.loc 3) .nil)))))
    .nil)))
    .nil)
  (.cons (.ife (.call 7 (.cons (.loc 1) (.cons (.glo 4) .nil)))
    (.cons (.asg 4 (.meth (.loc 0) 5 (.cons (.call 8 .nil) .nil)))
    (.cons (.ret (.tup (.cons (.ite (.cmp .isin (.loc 4) (.glo 0)) (.lit (.str [107, 101, 121])) (.lit (.str [118, 97, 114]))) (.cons (.loc 4) (.cons (.lit .none) .nil)))))
    .nil))
    .nil)
  (.cons (.ife (.call 7 (.cons (.loc 1) (.cons (.glo 5) .nil)))
    (.cons (.ret (.call 23 (.cons (.loc 0) .nil)))
    .nil)
    .nil)
  (.cons (.ife (.call 7 (.cons (.loc 1) (.cons (.glo 3) .nil)))
    (.cons (.asg 5 (.meth (.loc 0) 5 (.cons (.glo 3) .nil)))
    (.cons (.ret (.tup (.cons (.call 21 (.cons (.loc 5) .nil)) (.cons (.loc 5) (.cons (.lit .none) .nil)))))
    .nil))
    .nil)
  (.cons (.asg 2 (.attr (.loc 0) [97, 116]))
  (.cons (.ife (.cmp .eq (.loc 1) (.lit (.str [39])))
    (.cons (.asg 3 (.call 18 (.cons (.loc 0) .nil)))
    (.cons (.ret (.tup (.cons (.lit (.str [99, 104, 97, 114])) (.cons (.slice (.attr (.loc 0) [116, 101, 120, 116]) (.loc 2) (.attr (.loc 0) [97, 116])) (.cons (.loc 3) .nil)))))
    .nil))
    .nil)
  (.cons (.ife (.cmp .eq (.loc 1) (.lit (.str [34])))
    (.cons (.asg 3 (.call 20 (.cons (.loc 0) .nil)))
    (.cons (.ret (.tup (.cons (.lit (.str [116, 101, 120, 116])) (.cons (.slice (.attr (.loc 0) [116, 101, 120, 116]) (.loc 2) (.attr (.loc 0) [97, 116])) (.cons (.loc 3) .nil)))))
    .nil))
    .nil)
  (.cons (.raise (.bin .add (.lit (.str [110, 111, 32, 119, 111, 114, 100, 32, 98, 101, 103, 105, 110, 115, 32, 119, 105, 116, 104, 32])) (.loc 1)) (.meth (.loc 0) 6 .nil))
  .nil)))))))))))
noncomputable abbrev p_read_word : Fn := ⟨284, ["signs", "sign", "begin", "value", "name", "text"], 1, [], p_read_wordB⟩
noncomputable abbrev p_words_of_T1 : Ex :=
  (.bor (.cmp .eq (.loc 2) (.lst .nil)) (.cmp .ne (.attr (.idx (.loc 2) (.neg 1)) [107, 105, 110, 100]) (.lit (.str [101, 110, 100]))))
noncomputable abbrev p_words_of_L1 : Sxs :=
  (.cons (.asg 3 (.bor (.call 11 (.cons (.loc 1) .nil)) (.loc 3)))
  (.cons (.asgU [.loc 4, .loc 5] (.meth (.loc 1) 6 .nil))
  (.cons (.asgU [.loc 6, .loc 7, .loc 8] (.call 25 (.cons (.loc 1) .nil)))
  (.cons (.expr (.append (.loc 2) (.new 0 (.cons (.loc 6) (.cons (.loc 7) (.cons (.loc 4) (.cons (.loc 5) (.cons (.loc 8) (.cons (.loc 3) .nil)))))))))
  (.cons (.asg 3 (.lit (.bool false)))
  .nil)))))
/-- words_of -/
noncomputable abbrev p_words_ofB : Sxs :=
  (.cons (.asg 1 (.new 1 (.cons (.loc 0) .nil)))
  (.cons (.asg 2 (.mlst .nil))
  (.cons (.asg 3 (.lit (.bool true)))
  (.cons (.whl p_words_of_T1 p_words_of_L1)
  (.cons (.ret (.loc 2))
  .nil)))))
noncomputable abbrev p_words_of : Fn := ⟨291, ["text", "signs", "found", "is_first", "line", "column", "kind", "name", "value"], 1, [], p_words_ofB⟩
/-- _law_trough -/
noncomputable abbrev p_law_troughB : Sxs :=
  (.cons (.asg 2 (.ite (.cmp .lt (.loc 1) (.len (.loc 0))) (.idx (.loc 0) (.loc 1)) (.lit (.int 0))))
  (.cons (.asg 3 (.ite (.cmp .ge (.loc 2) (.lit (.int 0))) (.loc 2) (.bin .sub (.lit (.int 13)) (.loc 2))))
  (.cons (.ret (.mlst (.cons (.ite (.cmp .ge (.loc 3) (.pow 10 15)) (.loc 3) (.lit (.int 0))) (.cons (.bin .mod (.bin .add (.bin .add (.bin .mul (.bin .mod (.loc 3) (.lit (.int 999763))) (.lit (.int 311))) (.bin .mul (.lit (.int 127)) (.loc 1))) (.lit (.int 53))) (.lit (.int 65323))) .nil))))
  .nil)))
noncomputable abbrev p_law_trough : Fn := ⟨298, ["script", "turn", "pint", "fill"], 2, [], p_law_troughB⟩
/-- _law_gulp -/
noncomputable abbrev p_law_gulpB : Sxs :=
  (.cons (.ife (.cmp .gt (.idx (.loc 0) (.lit (.int 0))) (.lit (.int 0)))
    (.cons (.asg 2 (.bin .mod (.idx (.loc 0) (.lit (.int 0))) (.loc 1)))
    (.cons (.setidx (.loc 0) (.lit (.int 0)) (.bin .fdiv (.idx (.loc 0) (.lit (.int 0))) (.loc 1)))
    (.cons (.ret (.loc 2))
    .nil)))
    .nil)
  (.cons (.setidx (.loc 0) (.lit (.int 1)) (.bin .mod (.bin .add (.bin .mul (.idx (.loc 0) (.lit (.int 1))) (.lit (.int 241))) (.lit (.int 2003))) (.lit (.int 65323))))
  (.cons (.ret (.bin .mod (.bin .fdiv (.idx (.loc 0) (.lit (.int 1))) (.lit (.int 8))) (.loc 1)))
  .nil)))
noncomputable abbrev p_law_gulp : Fn := ⟨305, ["trough", "top", "sip"], 2, [], p_law_gulpB⟩
/-- _law_menu -/
noncomputable abbrev p_law_menuB : Sxs :=
  (.cons (.ret (.lst (.cons (.lst (.cons (.tup (.cons (.lit (.str [99, 104, 97, 114])) (.cons (.lit (.str [39, 92, 111, 49, 48, 49, 39])) (.cons (.lit (.str [65])) .nil)))) .nil)) (.cons (.lst (.cons (.tup (.cons (.lit (.str [99, 104, 97, 114])) (.cons (.lit (.str [39, 92, 120, 52, 97, 39])) (.cons (.lit (.str [74])) .nil)))) .nil)) (.cons (.lst (.cons (.tup (.cons (.lit (.str [99, 104, 97, 114])) (.cons (.lit (.str [39, 92, 55, 52, 39])) (.cons (.lit (.str [74])) .nil)))) .nil)) (.cons (.lst (.cons (.tup (.cons (.lit (.str [99, 104, 97, 114])) (.cons (.lit (.str [39, 92, 68, 69, 76, 39])) (.cons (.lit (.str [127])) .nil)))) .nil)) (.cons (.lst (.cons (.tup (.cons (.lit (.str [99, 104, 97, 114])) (.cons (.lit (.str [39, 92, 94, 64, 39])) (.cons (.lit (.str [0])) .nil)))) .nil)) (.cons (.lst (.cons (.tup (.cons (.lit (.str [99, 104, 97, 114])) (.cons (.lit (.str [39, 92, 94, 95, 39])) (.cons (.lit (.str [31])) .nil)))) .nil)) (.cons (.lst (.cons (.tup (.cons (.lit (.str [99, 104, 97, 114])) (.cons (.lit (.str [39, 92, 83, 79, 39])) (.cons (.lit (.str [14])) .nil)))) .nil)) (.cons (.lst (.cons (.tup (.cons (.lit (.str [99, 104, 97, 114])) (.cons (.lit (.str [39, 92, 39, 39])) (.cons (.lit (.str [39])) .nil)))) .nil)) (.cons (.lst (.cons (.tup (.cons (.lit (.str [116, 101, 120, 116])) (.cons (.lit (.str [34, 92, 83, 79, 72, 92, 83, 79, 92, 38, 72, 34])) (.cons (.lit (.str [1, 14, 72])) .nil)))) .nil)) (.cons (.lst (.cons (.tup (.cons (.lit (.str [116, 101, 120, 116])) (.cons (.lit (.str [34, 97, 92, 32, 32, 9, 92, 98, 34])) (.cons (.lit (.str [97, 98])) .nil)))) .nil)) (.cons (.lst (.cons (.tup (.cons (.lit (.str [116, 101, 120, 116])) (.cons (.lit (.str [34, 97, 92, 10, 32, 92, 92, 34, 98, 34])) (.cons (.lit (.str [97, 34, 98])) .nil)))) .nil)) (.cons (.lst (.cons (.tup (.cons (.lit (.str [116, 101, 120, 116])) (.cons (.lit (.str [34, 92, 49, 50, 92, 38, 51, 92, 120, 102, 71, 92, 111, 49, 55, 56, 34])) (.cons (.lit (.str [12, 51, 15, 71, 15, 56])) .nil)))) .nil)) (.cons (.lst (.cons (.tup (.cons (.lit (.str [116, 101, 120, 116])) (.cons (.lit (.str [34, 45, 45, 123, 45, 34])) (.cons (.lit (.str [45, 45, 123, 45])) .nil)))) .nil)) (.cons (.lst (.cons (.tup (.cons (.lit (.str [105, 110, 116])) (.cons (.lit (.str [48, 48, 55])) (.cons (.lit (.int 7)) .nil)))) .nil)) (.cons (.lst (.cons (.tup (.cons (.lit (.str [105, 110, 116])) (.cons (.lit (.str [48, 88, 102, 70])) (.cons (.lit (.int 255)) .nil)))) .nil)) (.cons (.lst (.cons (.tup (.cons (.lit (.str [105, 110, 116])) (.cons (.lit (.str [48, 111, 49, 55])) (.cons (.lit (.int 15)) .nil)))) .nil)) (.cons (.lst (.cons (.tup (.cons (.lit (.str [105, 110, 116])) (.cons (.lit (.str [48])) (.cons (.lit (.int 0)) .nil)))) (.cons (.tup (.cons (.lit (.str [118, 97, 114])) (.cons (.lit (.str [120])) (.cons (.lit .none) .nil)))) .nil))) (.cons (.lst (.cons (.tup (.cons (.lit (.str [105, 110, 116])) (.cons (.lit (.str [48])) (.cons (.lit (.int 0)) .nil)))) (.cons (.tup (.cons (.lit (.str [118, 97, 114])) (.cons (.lit (.str [111, 56])) (.cons (.lit .none) .nil)))) .nil))) (.cons (.lst (.cons (.tup (.cons (.lit (.str [105, 110, 116])) (.cons (.lit (.str [48, 120, 49])) (.cons (.lit (.int 1)) .nil)))) (.cons (.tup (.cons (.lit (.str [118, 97, 114])) (.cons (.lit (.str [103])) (.cons (.lit .none) .nil)))) .nil))) (.cons (.lst (.cons (.tup (.cons (.lit (.str [99, 111, 110])) (.cons (.lit (.str [77])) (.cons (.lit .none) .nil)))) (.cons (.tup (.cons (.lit (.str [118, 97, 114, 115, 121, 109])) (.cons (.lit (.str [46])) (.cons (.lit .none) .nil)))) (.cons (.tup (.cons (.lit (.str [107, 101, 121])) (.cons (.lit (.str [119, 104, 101, 114, 101])) (.cons (.lit .none) .nil)))) .nil)))) (.cons (.lst (.cons (.tup (.cons (.lit (.str [118, 97, 114, 115, 121, 109])) (.cons (.lit (.str [46])) (.cons (.lit (.str [77])) .nil)))) .nil)) (.cons (.lst (.cons (.tup (.cons (.lit (.str [99, 111, 110])) (.cons (.lit (.str [77])) (.cons (.lit .none) .nil)))) (.cons (.tup (.cons (.lit (.str [118, 97, 114, 115, 121, 109])) (.cons (.lit (.str [46, 61])) (.cons (.lit .none) .nil)))) .nil))) (.cons (.lst (.cons (.tup (.cons (.lit (.str [118, 97, 114])) (.cons (.lit (.str [120, 39])) (.cons (.lit (.str [65, 46, 66])) .nil)))) .nil)) (.cons (.lst (.cons (.tup (.cons (.lit (.str [99, 111, 110])) (.cons (.lit (.str [66, 39, 99])) (.cons (.lit (.str [65])) .nil)))) .nil)) (.cons (.lst (.cons (.tup (.cons (.lit (.str [118, 97, 114, 115, 121, 109])) (.cons (.lit (.str [124, 45, 45])) (.cons (.lit .none) .nil)))) .nil)) (.cons (.lst (.cons (.tup (.cons (.lit (.str [118, 97, 114, 115, 121, 109])) (.cons (.lit (.str [45, 45, 62])) (.cons (.lit .none) .nil)))) .nil)) (.cons (.lst (.cons (.tup (.cons (.lit (.str [118, 97, 114, 115, 121, 109])) (.cons (.lit (.str [45, 45, 46, 45])) (.cons (.lit .none) .nil)))) .nil)) (.cons (.lst (.cons (.tup (.cons (.lit (.str [111, 112])) (.cons (.lit (.str [45, 62])) (.cons (.lit .none) .nil)))) .nil)) (.cons (.lst (.cons (.tup (.cons (.lit (.str [99, 111, 110, 115, 121, 109])) (.cons (.lit (.str [58, 45, 45])) (.cons (.lit .none) .nil)))) .nil)) .nil)))))))))))))))))))))))))))))))
  .nil)
noncomputable abbrev p_law_menu : Fn := ⟨312, [], 0, [], p_law_menuB⟩
/-- _law_source -/
noncomputable abbrev p_law_sourceB : Sxs :=
  (.cons (.asgU [.loc 1, .loc 2, .loc 3] (.loc 0))
  (.cons (.ret (.ite (.band (.cmp .isin (.loc 1) (.tup (.cons (.lit (.str [118, 97, 114])) (.cons (.lit (.str [99, 111, 110])) (.cons (.lit (.str [118, 97, 114, 115, 121, 109])) (.cons (.lit (.str [99, 111, 110, 115, 121, 109])) .nil)))))) (.cmp .isnot (.loc 3) (.lit .none))) (.bin .add (.bin .add (.loc 3) (.lit (.str [46]))) (.loc 2)) (.loc 2)))
  .nil))
noncomputable abbrev p_law_source : Fn := ⟨319, ["word", "kind", "text", "value"], 1, [], p_law_sourceB⟩
noncomputable abbrev p_law_go_L1 : Sxs :=
  (.cons (.ife (.cmp .eq (.loc 2) (.lit (.str [10])))
    (.cons (.asgU [.sub (.loc 0) (.lit (.str [108, 105, 110, 101])), .sub (.loc 0) (.lit (.str [99, 111, 108, 117, 109, 110])), .sub (.loc 0) (.lit (.str [102, 105, 114, 115, 116]))] (.tup (.cons (.bin .add (.idx (.loc 0) (.lit (.str [108, 105, 110, 101]))) (.lit (.int 1))) (.cons (.lit (.int 1)) (.cons (.lit (.bool true)) .nil)))))
    .nil)
    (.cons (.ife (.cmp .eq (.loc 2) (.lit (.str [9])))
      (.cons (.setidx (.loc 0) (.lit (.str [99, 111, 108, 117, 109, 110])) (.bin .sub (.bin .add (.idx (.loc 0) (.lit (.str [99, 111, 108, 117, 109, 110]))) (.lit (.int 8))) (.bin .mod (.bin .sub (.idx (.loc 0) (.lit (.str [99, 111, 108, 117, 109, 110]))) (.lit (.int 1))) (.lit (.int 8)))))
      .nil)
      (.cons (.setidx (.loc 0) (.lit (.str [99, 111, 108, 117, 109, 110])) (.bin .add (.idx (.loc 0) (.lit (.str [99, 111, 108, 117, 109, 110]))) (.lit (.int 1))))
      .nil))
    .nil))
  .nil)
/-- _law_go -/
noncomputable abbrev p_law_goB : Sxs :=
  (.cons (.setidx (.loc 0) (.lit (.str [116, 101, 120, 116])) (.bin .add (.idx (.loc 0) (.lit (.str [116, 101, 120, 116]))) (.loc 1)))
  (.cons (.fors 2 (.loc 1)
    p_law_go_L1)
  .nil))
noncomputable abbrev p_law_go : Fn := ⟨326, ["page", "text", "sign"], 2, [], p_law_goB⟩
/-- _law_add -/
noncomputable abbrev p_law_addB : Sxs :=
  (.cons (.expr (.append (.idx (.loc 0) (.lit (.str [100, 117, 101]))) (.bin .add (.loc 1) (.tup (.cons (.idx (.loc 0) (.lit (.str [108, 105, 110, 101]))) (.cons (.idx (.loc 0) (.lit (.str [99, 111, 108, 117, 109, 110]))) (.cons (.idx (.loc 0) (.lit (.str [102, 105, 114, 115, 116]))) .nil)))))))
  (.cons (.expr (.call 31 (.cons (.loc 0) (.cons (.call 30 (.cons (.loc 1) .nil)) .nil))))
  (.cons (.setidx (.loc 0) (.lit (.str [102, 105, 114, 115, 116])) (.lit (.bool false)))
  .nil)))
noncomputable abbrev p_law_add : Fn := ⟨333, ["page", "word"], 2, [], p_law_addB⟩
/-- _law_gap -/
noncomputable abbrev p_law_gapB : Sxs :=
  (.cons (.ret (.idx (.lst (.cons (.lit (.str [32])) (.cons (.lit (.str [10])) (.cons (.lit (.str [9])) (.cons (.lit (.str [32, 13, 10])) (.cons (.lit (.str [12, 11, 32])) (.cons (.lit (.str [32, 45, 45, 45, 32, 99, 32, 34, 32, 123, 45, 10])) (.cons (.lit (.str [32, 45, 45, 120, 10, 9])) (.cons (.lit (.str [123, 45, 32, 45, 45, 32, 45, 125, 32])) (.cons (.lit (.str [123, 45, 123, 45, 45, 125, 10, 45, 125])) (.cons (.lit (.str [32, 45, 45, 32, 45, 45, 62, 10])) (.cons (.lit (.str [10, 10, 32])) (.cons (.lit (.str [123, 45, 45, 45, 32, 39, 45, 125])) .nil))))))))))))) (.call 28 (.cons (.loc 0) (.cons (.lit (.int 12)) .nil)))))
  .nil)
noncomputable abbrev p_law_gap : Fn := ⟨340, ["trough"], 1, [], p_law_gapB⟩
noncomputable abbrev p_law_page_L1 : Sxs :=
  (.cons (.expr (.call 32 (.cons (.loc 1) (.cons (.loc 4) .nil))))
  .nil)
noncomputable abbrev p_law_page_L2 : Sxs :=
  (.cons (.fors 4 (.idx (.loc 2) (.call 28 (.cons (.loc 0) (.cons (.len (.loc 2)) .nil))))
    p_law_page_L1)
  (.cons (.expr (.call 31 (.cons (.loc 1) (.cons (.call 33 (.cons (.loc 0) .nil)) .nil))))
  .nil))
/-- _law_page -/
noncomputable abbrev p_law_pageB : Sxs :=
  (.cons (.asg 1 (.mdct [[116, 101, 120, 116], [108, 105, 110, 101], [99, 111, 108, 117, 109, 110], [102, 105, 114, 115, 116], [100, 117, 101]] (.cons (.lit (.str [])) (.cons (.lit (.int 1)) (.cons (.lit (.int 1)) (.cons (.lit (.bool true)) (.cons (.mlst .nil) .nil)))))))
  (.cons (.asg 2 (.call 29 .nil))
  (.cons (.forR 3 (.call 28 (.cons (.loc 0) (.cons (.lit (.int 5)) .nil)))
    p_law_page_L2)
  (.cons (.ret (.loc 1))
  .nil))))
noncomputable abbrev p_law_page : Fn := ⟨347, ["trough", "page", "menu", "turn", "word"], 1, [], p_law_pageB⟩
/-- _law_spoilt -/
noncomputable abbrev p_law_spoiltB : Sxs :=
  (.cons (.ret (.idx (.lst (.cons (.tup (.cons (.lit (.str [39, 92, 113, 39])) (.cons (.lit (.int 2)) .nil))) (.cons (.tup (.cons (.lit (.str [39, 97, 98, 39])) (.cons (.lit (.int 0)) .nil))) (.cons (.tup (.cons (.lit (.str [34, 97, 98, 10, 34])) (.cons (.lit (.int 0)) .nil))) (.cons (.tup (.cons (.lit (.str [34, 97, 92, 32, 98, 34])) (.cons (.lit (.int 0)) .nil))) (.cons (.tup (.cons (.lit (.str [39, 92, 49, 49, 49, 52, 49, 49, 50, 39])) (.cons (.lit (.int 2)) .nil))) (.cons (.tup (.cons (.lit (.str [39, 92, 120, 49, 49, 48, 48, 48, 48, 39])) (.cons (.lit (.int 2)) .nil))) (.cons (.tup (.cons (.lit (.str [39, 39])) (.cons (.lit (.int 0)) .nil))) (.cons (.tup (.cons (.lit (.str [123, 45, 32, 123, 45, 32, 45, 125])) (.cons (.lit (.int 0)) .nil))) (.cons (.tup (.cons (.lit (.str [34, 92, 111, 57, 34])) (.cons (.lit (.int 2)) .nil))) (.cons (.tup (.cons (.lit (.str [39, 92, 94, 97, 39])) (.cons (.lit (.int 2)) .nil))) (.cons (.tup (.cons (.lit (.str [8364])) (.cons (.lit (.int 0)) .nil))) (.cons (.tup (.cons (.lit (.str [34, 92])) (.cons (.lit (.int 2)) .nil))) .nil))))))))))))) (.call 28 (.cons (.loc 0) (.cons (.lit (.int 12)) .nil)))))
  .nil)
noncomputable abbrev p_law_spoilt : Fn := ⟨354, ["trough"], 1, [], p_law_spoiltB⟩
/-- _law_told -/
noncomputable abbrev p_law_toldB : Sxs :=
  (.cons (.tryPlace (.comp (.tup (.cons (.attr (.loc 0) [107, 105, 110, 100]) (.cons (.attr (.loc 0) [116, 101, 120, 116]) (.cons (.attr (.loc 0) [118, 97, 108, 117, 101]) (.cons (.attr (.loc 0) [108, 105, 110, 101]) (.cons (.attr (.loc 0) [99, 111, 108, 117, 109, 110]) (.cons (.attr (.loc 0) [105, 115, 95, 102, 105, 114, 115, 116]) .nil))))))) (.call 26 (.cons (.loc 0) .nil))))
  .nil)
noncomputable abbrev p_law_told : Fn := ⟨359, ["text", "wrong"], 1, [], p_law_toldB⟩
noncomputable abbrev p_law_L1 : Sxs :=
  (.cons (.asg 2 (.call 27 (.cons (.loc 0) (.cons (.loc 1) .nil))))
  (.cons (.asg 3 (.call 34 (.cons (.loc 2) .nil)))
  (.cons (.asgW [4, 5, 6] (.tup (.cons (.idx (.loc 3) (.lit (.str [116, 101, 120, 116]))) (.cons (.idx (.loc 3) (.lit (.str [108, 105, 110, 101]))) (.cons (.idx (.loc 3) (.lit (.str [99, 111, 108, 117, 109, 110]))) .nil)))))
  (.cons (.asgU [.loc 7, .loc 8] (.call 35 (.cons (.loc 2) .nil)))
  (.cons (.ife (.cmp .ne (.call 36 (.cons (.bin .add (.loc 4) (.loc 7)) .nil)) (.tup (.cons (.loc 5) (.cons (.bin .add (.loc 6) (.loc 8)) .nil))))
    (.cons (.ret (.lit (.bool false)))
    .nil)
    .nil)
  (.cons (.expr (.call 31 (.cons (.loc 3) (.cons (.idx (.lst (.cons (.lit (.str [])) (.cons (.lit (.str [45, 45, 32, 108, 97, 115, 116])) (.cons (.lit (.str [123, 45, 32, 45, 125])) (.cons (.lit (.str [45, 45])) .nil))))) (.call 28 (.cons (.loc 2) (.cons (.lit (.int 4)) .nil)))) .nil))))
  (.cons (.expr (.call 32 (.cons (.loc 3) (.cons (.tup (.cons (.lit (.str [101, 110, 100])) (.cons (.lit (.str [])) (.cons (.lit .none) .nil)))) .nil))))
  (.cons (.ife (.cmp .ne (.call 36 (.cons (.idx (.loc 3) (.lit (.str [116, 101, 120, 116]))) .nil)) (.idx (.loc 3) (.lit (.str [100, 117, 101]))))
    (.cons (.ret (.lit (.bool false)))
    .nil)
    .nil)
  .nil))))))))
/-- law -/
noncomputable abbrev p_lawB : Sxs :=
  (.cons (.ife (.bor (.cmp .ne (.comp (.idx (.loc 0) (.lit (.int 1))) (.call 36 (.cons (.lit (.str [97, 32, 45, 45, 62, 32, 98, 10, 45, 45, 32, 99, 10, 45, 45, 45, 32, 100])) .nil))) (.lst (.cons (.lit (.str [97])) (.cons (.lit (.str [45, 45, 62])) (.cons (.lit (.str [98])) (.cons (.lit (.str [])) .nil)))))) (.cmp .ne (.call 36 (.cons (.lit (.str [9, 39])) .nil)) (.tup (.cons (.lit (.int 1)) (.cons (.lit (.int 9)) .nil)))))
    (.cons (.ret (.lit (.bool false)))
    .nil)
    .nil)
  (.cons (.forR 1 (.max2 (.lit (.int 1)) (.min2 (.lit (.int 2)) (.len (.loc 0))))
    p_law_L1)
  (.cons (.ret (.lit (.bool true)))
  .nil)))
noncomputable abbrev p_law : Fn := ⟨364, ["script", "turn", "trough", "page", "text", "line", "column", "wrong", "far"], 1, [], p_lawB⟩
/-- the functions by their numbers -/
noncomputable def ftL : List Fn := [p_WordInit, p_SignsInit, p_Signs_sign, p_Signs_starts, p_Signs_step, p_Signs_take, p_Signs_place, p_is_among, p_name_letters, p_is_line_comment, p_skip_nested, p_skip_between, p_number_of, p_based_number, p_read_number, p_checked_sign, p_named_escape, p_read_escape, p_read_char, p_skip_gap, p_read_text, p_symbol_kind, p_behind_point, p_read_great_name, p_symbols_ahead, p_read_word, p_words_of, p_law_trough, p_law_gulp, p_law_menu, p_law_source, p_law_go, p_law_add, p_law_gap, p_law_page, p_law_spoilt, p_law_told]
noncomputable def FT (k : Nat) : Option Fn := ftL[k]?
/-- .. their addresses -/
noncomputable def faL : List Addr := [73, 108, 116, 123, 130, 137, 144, 158, 165, 172, 179, 186, 193, 200, 207, 214, 221, 228, 235, 242, 249, 256, 263, 270, 277, 284, 291, 298, 305, 312, 319, 326, 333, 340, 347, 354, 359, 364]
noncomputable def FA (k : Nat) : Option Addr := bif k == 100 then some 36 else faL[k]?
/-- .. their global names -/
noncomputable def fnL : List (Option Str) := [none, none, none, none, none, none, none, some (Str.ofString "is_among"), some (Str.ofString "name_letters"), some (Str.ofString "is_line_comment"), some (Str.ofString "skip_nested"), some (Str.ofString "skip_between"), some (Str.ofString "number_of"), some (Str.ofString "based_number"), some (Str.ofString "read_number"), some (Str.ofString "checked_sign"), some (Str.ofString "named_escape"), some (Str.ofString "read_escape"), some (Str.ofString "read_char"), some (Str.ofString "skip_gap"), some (Str.ofString "read_text"), some (Str.ofString "symbol_kind"), some (Str.ofString "behind_point"), some (Str.ofString "read_great_name"), some (Str.ofString "symbols_ahead"), some (Str.ofString "read_word"), some (Str.ofString "words_of"), some (Str.ofString "_law_trough"), some (Str.ofString "_law_gulp"), some (Str.ofString "_law_menu"), some (Str.ofString "_law_source"), some (Str.ofString "_law_go"), some (Str.ofString "_law_add"), some (Str.ofString "_law_gap"), some (Str.ofString "_law_page"), some (Str.ofString "_law_spoilt"), some (Str.ofString "_law_told"), some (Str.ofString "law")]
noncomputable def FN (k : Nat) : Option Str := fnL[k]?.join
/-- the classes' names by their __init__ -/
noncomputable def cnL : List (Option Str) := [some (Str.ofString "Word"), some (Str.ofString "Signs")]
noncomputable def CN (k : Nat) : Option Str := cnL[k]?.join
/-- the class of a function -/
noncomputable def clL : List Addr := [90, 147, 147, 147, 147, 147, 147]
noncomputable def clsOf (k : Nat) : Option Addr := clL[k]?
noncomputable def meL : List (Option (List Nat)) := [none, none, some [115, 105, 103, 110], some [115, 116, 97, 114, 116, 115], some [115, 116, 101, 112], some [116, 97, 107, 101], some [112, 108, 97, 99, 101]]
noncomputable def methOf (k : Nat) : Option (List Nat) := meL[k]?.join
noncomputable def ownWord : List (List Nat) := [[107, 105, 110, 100], [116, 101, 120, 116], [108, 105, 110, 101], [99, 111, 108, 117, 109, 110], [118, 97, 108, 117, 101], [105, 115, 95, 102, 105, 114, 115, 116]]
noncomputable def ownSigns : List (List Nat) := [[116, 101, 120, 116], [97, 116], [108, 105, 110, 101], [99, 111, 108, 117, 109, 110]]
noncomputable def ownOf (C : Addr) (f : List Nat) : Bool := bif C == 90 then ownWord.contains f else bif C == 147 then ownSigns.contains f else false
noncomputable def sg : Sig := ⟨clsOf, methOf, Mine.ownOf⟩
/-- the one function that catches -/
noncomputable def softOf (k : Nat) : Bool := k == 36
noncomputable def gnL : List Str := ["KEYS", "OPS", "SPECIALS", "SYMBOLS", "SMALL", "GREAT", "DIGITS", "TAB", "MOST_SIGN", "PLAIN_ESCAPES", "NAMED_ESCAPES", "DELETE"]
noncomputable def GN (k : Nat) : Option Str := gnL[k]?
noncomputable def g_KEYS : V := (.tup [(.str [99, 97, 115, 101]), (.str [99, 108, 97, 115, 115]), (.str [100, 97, 116, 97]), (.str [100, 101, 114, 105, 118, 105, 110, 103]), (.str [100, 111]), (.str [101, 108, 115, 101]), (.str [105, 102]), (.str [105, 109, 112, 111, 114, 116]), (.str [105, 110]), (.str [105, 110, 102, 105, 120]), (.str [105, 110, 102, 105, 120, 108]), (.str [105, 110, 102, 105, 120, 114]), (.str [105, 110, 115, 116, 97, 110, 99, 101]), (.str [108, 101, 116]), (.str [109, 111, 100, 117, 108, 101]), (.str [110, 101, 119, 116, 121, 112, 101]), (.str [111, 102]), (.str [116, 104, 101, 110]), (.str [116, 121, 112, 101]), (.str [119, 104, 101, 114, 101]), (.str [95])])
noncomputable def g_OPS : V := (.tup [(.str [46, 46]), (.str [58]), (.str [58, 58]), (.str [61]), (.str [92]), (.str [124]), (.str [60, 45]), (.str [45, 62]), (.str [64]), (.str [126]), (.str [61, 62])])
noncomputable def g_SPECIALS : V := (.str [40, 41, 91, 93, 44, 59, 96, 123, 125])
noncomputable def g_SYMBOLS : V := (.str [33, 35, 36, 37, 38, 42, 43, 46, 47, 60, 61, 62, 63, 64, 92, 94, 124, 45, 126, 58])
noncomputable def g_SMALL : V := (.str [97, 98, 99, 100, 101, 102, 103, 104, 105, 106, 107, 108, 109, 110, 111, 112, 113, 114, 115, 116, 117, 118, 119, 120, 121, 122, 95])
noncomputable def g_GREAT : V := (.str [65, 66, 67, 68, 69, 70, 71, 72, 73, 74, 75, 76, 77, 78, 79, 80, 81, 82, 83, 84, 85, 86, 87, 88, 89, 90])
noncomputable def g_DIGITS : V := (.str [48, 49, 50, 51, 52, 53, 54, 55, 56, 57])
noncomputable def g_TAB : V := (.int 8)
noncomputable def g_MOST_SIGN : V := (.int 1114111)
noncomputable def g_PLAIN_ESCAPES : V := (.dct [([97], (.int 7)), ([98], (.int 8)), ([102], (.int 12)), ([110], (.int 10)), ([114], (.int 13)), ([116], (.int 9)), ([118], (.int 11)), ([92], (.int 92)), ([34], (.int 34)), ([39], (.int 39))])
noncomputable def g_NAMED_ESCAPES : V := (.tup [(.str [78, 85, 76]), (.str [83, 79, 72]), (.str [83, 84, 88]), (.str [69, 84, 88]), (.str [69, 79, 84]), (.str [69, 78, 81]), (.str [65, 67, 75]), (.str [66, 69, 76]), (.str [66, 83]), (.str [72, 84]), (.str [76, 70]), (.str [86, 84]), (.str [70, 70]), (.str [67, 82]), (.str [83, 79]), (.str [83, 73]), (.str [68, 76, 69]), (.str [68, 67, 49]), (.str [68, 67, 50]), (.str [68, 67, 51]), (.str [68, 67, 52]), (.str [78, 65, 75]), (.str [83, 89, 78]), (.str [69, 84, 66]), (.str [67, 65, 78]), (.str [69, 77]), (.str [83, 85, 66]), (.str [69, 83, 67]), (.str [70, 83]), (.str [71, 83]), (.str [82, 83]), (.str [85, 83]), (.str [83, 80])])
noncomputable def g_DELETE : V := (.int 127)
noncomputable def gvL : List V := [g_KEYS, g_OPS, g_SPECIALS, g_SYMBOLS, g_SMALL, g_GREAT, g_DIGITS, g_TAB, g_MOST_SIGN, g_PLAIN_ESCAPES, g_NAMED_ESCAPES, g_DELETE]
noncomputable def GV (k : Nat) : Option V := gvL[k]?
end
-- Q1
section
open PySem
section
variable {F : Fns} {G : Nat → Option V} {sg : Sig} {W : Nat} {m : Loc} {H H1 : Hp} {v : V} {a b c d e f g h i j : Option V} {α : Type} {x y z : α}
theorem loc0 : evalE F G sg (.loc 0) (some v :: m) H = .ok v H := rfl
theorem loc1 : evalE F G sg (.loc 1) (a :: some v :: m) H = .ok v H := rfl
theorem loc2 : evalE F G sg (.loc 2) (a :: b :: some v :: m) H = .ok v H := rfl
theorem loc3 : evalE F G sg (.loc 3) (a :: b :: c :: some v :: m) H = .ok v H := rfl
theorem loc4 : evalE F G sg (.loc 4) (a :: b :: c :: d :: some v :: m) H = .ok v H := rfl
theorem loc5 : evalE F G sg (.loc 5) (a :: b :: c :: d :: e :: some v :: m) H = .ok v H := rfl
theorem loc6 : evalE F G sg (.loc 6) (a :: b :: c :: d :: e :: f :: some v :: m) H = .ok v H := rfl
theorem loc7 : evalE F G sg (.loc 7) (a :: b :: c :: d :: e :: f :: g :: some v :: m) H = .ok v H := rfl
theorem loc8 : evalE F G sg (.loc 8) (a :: b :: c :: d :: e :: f :: g :: h :: some v :: m) H = .ok v H := rfl
theorem loc9 : evalE F G sg (.loc 9) (a :: b :: c :: d :: e :: f :: g :: h :: i :: some v :: m) H = .ok v H := rfl
theorem st0 : setL (a :: m) 0 v = some v :: m := rfl
theorem st1 : setL (a :: b :: m) 1 v = a :: some v :: m := rfl
theorem st2 : setL (a :: b :: c :: m) 2 v = a :: b :: some v :: m := rfl
theorem st3 : setL (a :: b :: c :: d :: m) 3 v = a :: b :: c :: some v :: m := rfl
theorem st4 : setL (a :: b :: c :: d :: e :: m) 4 v = a :: b :: c :: d :: some v :: m := rfl
theorem st5 : setL (a :: b :: c :: d :: e :: f :: m) 5 v = a :: b :: c :: d :: e :: some v :: m := rfl
theorem st6 : setL (a :: b :: c :: d :: e :: f :: g :: m) 6 v = a :: b :: c :: d :: e :: f :: some v :: m := rfl
theorem st7 : setL (a :: b :: c :: d :: e :: f :: g :: h :: m) 7 v = a :: b :: c :: d :: e :: f :: g :: some v :: m := rfl
theorem st8 : setL (a :: b :: c :: d :: e :: f :: g :: h :: i :: m) 8 v = a :: b :: c :: d :: e :: f :: g :: h :: some v :: m := rfl
theorem st9 : setL (a :: b :: c :: d :: e :: f :: g :: h :: i :: j :: m) 9 v = a :: b :: c :: d :: e :: f :: g :: h :: i :: some v :: m := rfl
theorem r_lits {s : List Nat} : evalE F G sg (.lit (.str s)) m H = .ok (.str s) H := rfl
theorem r_liti {k : Int} : evalE F G sg (.lit (.int k)) m H = .ok (.int k) H := rfl
theorem r_litb {k : Bool} : evalE F G sg (.lit (.bool k)) m H = .ok (.bool k) H := rfl
theorem r_litn : evalE F G sg (.lit .none) m H = .ok .none H := rfl
theorem c_T (h : x = z) : cond true x y = z := h
theorem q_asgW2 {v w : V} {k l : Nat} {m1 m2 : Loc} (h1 : setL m l w = m1) (h2 : setL m1 k v = m2) : (Rs.ok (.tup [v, w]) H).q (asgKW [k, l] m) = .next m2 H := by subst h1; subst h2; rfl
theorem q_asgW3 {v w u : V} {k l o : Nat} {m1 m2 m3 : Loc} (h1 : setL m o u = m1) (h2 : setL m1 l w = m2) (h3 : setL m2 k v = m3) : (Rs.ok (.tup [v, w, u]) H).q (asgKW [k, l, o] m) = .next m3 H := by subst h1; subst h2; subst h3; rfl
theorem bt1 {v : V} {k : Nat} {m1 : Loc} (h1 : setL m k v = m1) : (fun m v => some (setL m k v)) m v = some m1 := by subst h1; rfl
theorem bt2 {v w : V} {k l : Nat} {m1 m2 : Loc} (h1 : setL m k v = m1) (h2 : setL m1 l w = m2) : bindT [k, l] m (.tup [v, w]) = some m2 := by subst h1; subst h2; rfl
theorem bt3 {v w u : V} {k l o : Nat} {m1 m2 m3 : Loc} (h1 : setL m k v = m1) (h2 : setL m1 l w = m2) (h3 : setL m2 o u = m3) : bindT [k, l, o] m (.tup [v, w, u]) = some m3 := by subst h1; subst h2; subst h3; rfl
theorem nF {c : Bool} (h : c = true) : (!c) = false := by rw [h]; rfl
theorem nT {c : Bool} (h : c = false) : (!c) = true := by rw [h]; rfl
theorem cNe {x y : List Nat} : cmpV H .ne (.str x) (.str y) = some (!(x == y)) := rfl
theorem c_F (h : y = z) : cond false x y = z := h
end
/-- the signs' state -/
structure Sg where
  T : List Nat
  a : Nat
  l : Int
  c : Int
noncomputable def sd (T : List Nat) (a l c : Int) : O := .dict [([116, 101, 120, 116], .str T), ([97, 116], .int a), ([108, 105, 110, 101], .int l), ([99, 111, 108, 117, 109, 110], .int c)]
noncomputable abbrev Sg.dict (σ : Sg) : O := sd σ.T σ.a σ.l σ.c
noncomputable def Sg.s (σ : Sg) : List Nat := σ.T.drop σ.a
noncomputable def Sg.stp (σ : Sg) : Sg := if σ.s.take 1 = [10] then ⟨σ.T, σ.a + 1, σ.l + 1, 1⟩ else if σ.s.take 1 = [9] then ⟨σ.T, σ.a + 1, σ.l, (σ.c - 1).fdiv 8 * 8 + 8 + 1⟩ else ⟨σ.T, σ.a + 1, σ.l, σ.c + 1⟩
noncomputable def Sg.adv : Nat → Sg → Sg
  | 0, σ => σ
  | n + 1, σ => Sg.adv n σ.stp
structure Sg.Ok (σ : Sg) : Prop where
  t : σ.T.length ≤ 1000
theorem Sg.Ok.adv' {σ : Sg} (h : σ.Ok) {τ : Sg} (e : τ.T = σ.T) : τ.Ok := ⟨by rw [e]; exact h.t⟩
noncomputable def sgn (s : List Nat) (k : Nat) : List Nat := (s.drop k).take 1
theorem Sg.stp_T (σ : Sg) : σ.stp.T = σ.T := by
  unfold Sg.stp; split; · rfl
  split <;> rfl
theorem Sg.stp_a (σ : Sg) : σ.stp.a = σ.a + 1 := by
  unfold Sg.stp; split; · rfl
  split <;> rfl
theorem Sg.stp_s (σ : Sg) : σ.stp.s = σ.s.drop 1 := by
  unfold Sg.s
  rw [Sg.stp_T, Sg.stp_a, List.drop_drop]
theorem Sg.adv_T : ∀ (n : Nat) (σ : Sg), (Sg.adv n σ).T = σ.T
  | 0, _ => rfl
  | n + 1, σ => (Sg.adv_T n σ.stp).trans σ.stp_T
theorem Sg.adv_a : ∀ (n : Nat) (σ : Sg), (Sg.adv n σ).a = σ.a + n
  | 0, _ => rfl
  | n + 1, σ => (Sg.adv_a n σ.stp).trans (by rw [Sg.stp_a]; omega)
theorem Sg.Ok.stp {σ : Sg} (h : σ.Ok) : σ.stp.Ok := h.adv' σ.stp_T
theorem Sg.Ok.adv {σ : Sg} (h : σ.Ok) (n : Nat) : (Sg.adv n σ).Ok := h.adv' (Sg.adv_T n σ)
theorem Sg.adv_s (n : Nat) (σ : Sg) : (Sg.adv n σ).s = σ.s.drop n := by
  unfold Sg.s
  rw [Sg.adv_T, Sg.adv_a, List.drop_drop]
theorem Sg.adv_adv : ∀ (n m : Nat) (σ : Sg), Sg.adv m (Sg.adv n σ) = Sg.adv (n + m) σ
  | 0, m, σ => by rw [Nat.zero_add]; rfl
  | n + 1, m, σ => (Sg.adv_adv n m σ.stp).trans (by rw [show n + 1 + m = (n + m) + 1 by omega]; rfl)
theorem Sg.adv_succ (n : Nat) (σ : Sg) : (Sg.adv n σ).stp = Sg.adv (n + 1) σ := Sg.adv_adv n 1 σ
noncomputable abbrev FF (W n : Nat) : Fns := callF FT GV sg W n
noncomputable def fin (z : Z) : Rs V := match z with
  | .next _ H1 => .ok .none H1
  | .ret v H1 => .ok v H1
  | .exc p H1 => .exc p H1
  | .stuck => .stuck
theorem call_eq {W n f : Nat} {fn : Fn} {vs : List V} {m : Loc} (H : Hp) (hf : FT f = some fn) (hm : startL fn vs = some m) : FF W (n + 2) f vs H = fin (execSs (FF W (n + 1)) GV sg W fn.body m H) := by
  show (if n + 1 = 0 then Rs.stuck else match FT f with
    | some fn => match startL fn vs with
      | some m => fin (execSs (callF FT GV sg W (n + 1)) GV sg W fn.body m H)
      | none => .stuck
    | none => .stuck) = _
  rw [if_neg (by omega), hf]
  show (match startL fn vs with
      | some m => fin (execSs (callF FT GV sg W (n + 1)) GV sg W fn.body m H)
      | none => .stuck) = _
  rw [hm]
/-- a function's call by its body's end -/
theorem k_of {W n f : Nat} {fn : Fn} {B : Sxs} {vs : List V} {m : Loc} {H : Hp} {x : Z} {r : Rs V} (hf : FT f = some fn) (hB : fn.body = B) (hm : startL fn vs = some m) (h : execSs (FF W (n + 1)) GV sg W B m H = x) (e : fin x = r) : FF W (n + 2) f vs H = r := (call_eq H hf hm).trans ((congrArg fin (hB ▸ h)).trans e)
section
variable {F : Fns} {W n i : Nat} {K H H1 H2 : Hp} {σ : Sg} {T : List Nat} {a l c x : Int} {m : Loc} {e : Ex} {as : Exs} {vs : List V} {r : Rs V} {v : V}
theorem gg (hi : i < K.length) {o : O} : (K.set i o)[i]? = some o := List.getElem?_set_self hi
theorem set_get {H : Hp} {i : Nat} {o o' : O} (h : H[i]? = some o) : (H.set i o')[i]? = some o' := gg (List.getElem?_eq_some_iff.mp h).1
theorem set_set {H : Hp} {i : Nat} {o o' : O} : (H.set i o).set i o' = H.set i o' := by simp
theorem set_same {H : Hp} {i : Nat} {o : O} (h : H[i]? = some o) : H.set i o = H := by
  obtain ⟨hl, e⟩ := List.getElem?_eq_some_iff.mp h
  rw [← e]; exact List.set_getElem_self hl
theorem attr_of {C : Addr} {f : List Nat} {kvs : List (List Nat × V)} (hf : sg.own C f = true) (h : H[i]? = some (.dict kvs)) (hk : (kvGet kvs f).bind (fun v => if noGlob v then some v else none) = some v) : attrV sg H f (.inst C i) = some v :=
  (if_pos hf).trans (by rw [h]; exact hk)
theorem setat_of {C : Addr} {f : List Nat} {kvs : List (List Nat × V)} (hf : sg.own C f = true) (h : H[i]? = some (.dict kvs)) (hl : kvs.length < 100) : setAttrV sg H (.inst C i) f v = some (H.set i (.dict (kvSet kvs f v))) :=
  (if_pos hf).trans (by rw [h]; exact if_pos hl)
theorem a_text (hi : i < K.length) : attrV sg (K.set i (sd T a l c)) [116, 101, 120, 116] (.inst 147 i) = some (.str T) := attr_of rfl (gg (o := sd T a l c) hi) rfl
theorem a_at (hi : i < K.length) : attrV sg (K.set i (sd T a l c)) [97, 116] (.inst 147 i) = some (.int a) := attr_of rfl (gg (o := sd T a l c) hi) rfl
theorem a_line (hi : i < K.length) : attrV sg (K.set i (sd T a l c)) [108, 105, 110, 101] (.inst 147 i) = some (.int l) := attr_of rfl (gg (o := sd T a l c) hi) rfl
theorem a_col (hi : i < K.length) : attrV sg (K.set i (sd T a l c)) [99, 111, 108, 117, 109, 110] (.inst 147 i) = some (.int c) := attr_of rfl (gg (o := sd T a l c) hi) rfl
theorem p_at (hi : i < K.length) : setAttrV sg (K.set i (sd T a l c)) (.inst 147 i) [97, 116] (.int x) = some (K.set i (sd T x l c)) := (setat_of rfl (gg (o := sd T a l c) hi) (Nat.lt_of_sub_eq_succ rfl)).trans (congrArg some set_set)
theorem p_line (hi : i < K.length) : setAttrV sg (K.set i (sd T a l c)) (.inst 147 i) [108, 105, 110, 101] (.int x) = some (K.set i (sd T a x c)) := (setat_of rfl (gg (o := sd T a l c) hi) (Nat.lt_of_sub_eq_succ rfl)).trans (congrArg some set_set)
theorem p_col (hi : i < K.length) : setAttrV sg (K.set i (sd T a l c)) (.inst 147 i) [99, 111, 108, 117, 109, 110] (.int x) = some (K.set i (sd T a l x)) := (setat_of rfl (gg (o := sd T a l c) hi) (Nat.lt_of_sub_eq_succ rfl)).trans (congrArg some set_set)
theorem p_text {X : List Nat} (hi : i < K.length) : setAttrV sg (K.set i (sd T a l c)) (.inst 147 i) [116, 101, 120, 116] (.str X) = some (K.set i (sd X a l c)) := (setat_of rfl (gg (o := sd T a l c) hi) (Nat.lt_of_sub_eq_succ rfl)).trans (congrArg some set_set)
noncomputable def sgQ (f : Nat) : Bool := Nat.ble 2 f && Nat.ble f 6
theorem r_sg {f : Nat} (h1 : evalE F GV sg e m H = .ok (.inst 147 i) (K.set i (sd T a l c))) (hi : i < K.length) (hf : sgQ f = true) (h2 : evalEs F GV sg as m (K.set i (sd T a l c)) = .ok vs H2) (h3 : F f (.inst 147 i :: vs) H2 = r) : evalE F GV sg (.meth e f as) m H = r :=
  match f, hf with
  | 2, _ => r_meth h1 rfl rfl (gg (o := sd T a l c) hi) rfl h2 h3
  | 3, _ => r_meth h1 rfl rfl (gg (o := sd T a l c) hi) rfl h2 h3
  | 4, _ => r_meth h1 rfl rfl (gg (o := sd T a l c) hi) rfl h2 h3
  | 5, _ => r_meth h1 rfl rfl (gg (o := sd T a l c) hi) rfl h2 h3
  | 6, _ => r_meth h1 rfl rfl (gg (o := sd T a l c) hi) rfl h2 h3
end
end
local macro_rules | `(tactic| k_updF) => do
  let f (s : String) := Lean.mkIdent (.mkSimple s)
  let a ← ("loc0 loc1 loc2 loc3 loc4 loc5 loc6 loc7 loc8 loc9 s_nil t_ret t_exc q_exc q_ret q_expr r_lits r_liti r_litb r_litn r_neg r_nil st_nil lf_nil cNe st0 st1 st2 st3 st4 st5 st6 st7 st8 st9".splitOn " ").toArray.mapM fun s => `(Lean.Parser.Tactic.tacticSeq| exact $(f s))
  let b ← ("s_cons t_next s_asg q_asg s_ret s_expr s_ife c_T c_F r_cons r_sg r_call r_attr r_cmp r_bin r_and r_or r_not r_ite r_len r_idx r_slice r_tup r_lst r_mlst r_chr r_ord r_lower r_index r_join r_dget r_append r_max r_min r_dct r_mdct r_new s_raise s_whl s_setattr s_augattr s_augloc s_setidx s_asgU s_asgW q_asgU q_asgW2 q_asgW3 st_loc st_sub s_fors s_forR s_forT lf_next lf_cons bt3 bt2 bt1 r_glo".splitOn " ").toArray.mapM fun s => `(Lean.Parser.Tactic.tacticSeq| apply $(f s))
  let c ← ("a_text a_at a_line a_col p_text p_at p_line p_col".splitOn " ").toArray.mapM fun s => `(Lean.Parser.Tactic.tacticSeq| exact $(f s) (by assumption))
  `(tactic| first | (with_reducible first $[| $(a ++ b ++ c)]* | (show _ < _; assumption)) | (refine dT ?_; exact rfl) | (refine dF ?_; exact rfl) | exact rfl | exact Nat.le_of_ble_eq_true rfl)
section
open PySem
section
variable {W n i : Nat} {H : Hp} {σ : Sg}
theorem Sg.Ok.big (ok : σ.Ok) : σ.T.length ≤ big := Nat.le_trans ok.t (by decide)
theorem sgn_get {T : List Nat} {a k : Nat} (h : a + k < T.length) : sgn (T.drop a) k = [T[a + k]] := by
  unfold sgn
  rw [List.drop_drop, List.drop_eq_getElem_cons h]; rfl
theorem sgn_end {T : List Nat} {a k : Nat} (h : ¬ a + k < T.length) : sgn (T.drop a) k = [] := by
  unfold sgn
  rw [List.drop_drop, List.drop_eq_nil_of_le (by omega)]; rfl
theorem idx_str {H : Hp} {s : List Nat} {k : Nat} {c : Nat} (hb : s.length ≤ big) (h : s[k]? = some c) : idxV H (.str s) (.int k) = some (.str [c]) := (if_pos ⟨Int.natCast_nonneg k, hb⟩).trans (by rw [Int.toNat_natCast, h]; rfl)
theorem k_sign (hi : i < H.length) (ok : σ.Ok) (k : Nat) : FF W (n + 2) 2 [.inst 147 i, .int k] (H.set i σ.dict) = .ok (.str (sgn σ.s k)) (H.set i σ.dict) := by
  have hb := ok.big
  by_cases hlt : σ.a + k < σ.T.length
  · have h1 : decide ((σ.a : Int) + (k : Int) < (σ.T.length : Int)) = true := by rw [decide_eq_true_eq]; omega
    have e1 : idxV (H.set i σ.dict) (.str σ.T) (.int ((σ.a : Int) + (k : Int))) = some (.str (sgn σ.s k)) := by
      rw [Sg.s, sgn_get hlt]; exact idx_str hb (List.getElem?_eq_getElem hlt)
    refine k_of (fn := p_Signs_sign) (B := p_Signs_signB) (m := [some (.inst 147 i), some (.int k), none]) rfl rfl rfl (x := .ret (.str (sgn σ.s k)) (H.set i σ.dict)) ?_ rfl
    repeat' (first | with_reducible exact h1 | with_reducible exact hb | with_reducible exact e1 | k_updF)
  · have h1 : decide ((σ.a : Int) + (k : Int) < (σ.T.length : Int)) = false := by rw [decide_eq_false_iff_not]; omega
    rw [Sg.s, sgn_end hlt]
    refine k_of (fn := p_Signs_sign) (B := p_Signs_signB) (m := [some (.inst 147 i), some (.int k), none]) rfl rfl rfl (x := .ret (.str []) (H.set i σ.dict)) ?_ rfl
    repeat' (first | with_reducible exact h1 | with_reducible exact hb | k_updF)
theorem k_sign1 (hi : i < H.length) (ok : σ.Ok) : FF W (n + 2) 2 [.inst 147 i, .int 1] (H.set i σ.dict) = .ok (.str (sgn σ.s 1)) (H.set i σ.dict) := k_sign hi ok 1
theorem k_sign2 (hi : i < H.length) (ok : σ.Ok) : FF W (n + 2) 2 [.inst 147 i, .int 2] (H.set i σ.dict) = .ok (.str (sgn σ.s 2)) (H.set i σ.dict) := k_sign hi ok 2
theorem k_sign0 (hi : i < H.length) (ok : σ.Ok) : FF W (n + 2) 2 [.inst 147 i] (H.set i σ.dict) = .ok (.str (sgn σ.s 0)) (H.set i σ.dict) := by
  have h := k_sign (W := W) (n := n) hi ok 0
  rw [call_eq (fn := p_Signs_sign) _ rfl rfl] at h ⊢
  exact h
/-- where a sign stands -/
noncomputable def Sg.plc (σ : Sg) : V := .tup [.int σ.l, .int σ.c]
theorem k_place (hi : i < H.length) : FF W (n + 2) 6 [.inst 147 i] (H.set i σ.dict) = .ok σ.plc (H.set i σ.dict) := by
  refine k_of (fn := p_Signs_place) (B := p_Signs_placeB) (m := [some (.inst 147 i)]) rfl rfl rfl (x := .ret (.tup [.int σ.l, .int σ.c]) (H.set i σ.dict)) ?_ rfl
  repeat' (first | k_updF)
theorem k_starts (hi : i < H.length) (ok : σ.Ok) (x : List Nat) (hx : x.length ≤ 1000) : FF W (n + 2) 3 [.inst 147 i, .str x] (H.set i σ.dict) = .ok (.bool (σ.s.take x.length == x)) (H.set i σ.dict) := by
  have hx' : x.length ≤ big := Nat.le_trans hx (by decide)
  have e : sliceV (.str σ.T) (.int σ.a) (.int ((σ.a : Int) + (x.length : Int))) = some (.str (σ.s.take x.length)) := by
    refine (if_pos ⟨Int.natCast_nonneg _, by omega, ok.big⟩).trans ?_
    rw [show ((σ.a : Int) + (x.length : Int)).toNat = σ.a + x.length by omega, Int.toNat_natCast, List.drop_take, show σ.a + x.length - σ.a = x.length by omega]; rfl
  refine k_of (fn := p_Signs_starts) (B := p_Signs_startsB) (m := [some (.inst 147 i), some (.str x)]) rfl rfl rfl (x := .ret (.bool (σ.s.take x.length == x)) (H.set i σ.dict)) ?_ rfl
  repeat' (first | with_reducible exact hx' | with_reducible exact e | k_updF)
theorem k_step (hi : i < H.length) (ok : σ.Ok) : FF W (n + 3) 4 [.inst 147 i] (H.set i σ.dict) = .ok (.str (sgn σ.s 0)) (H.set i σ.stp.dict) := by
  have hs := k_sign0 (W := W) (n := n) hi ok
  have e0 : sgn σ.s 0 = σ.s.take 1 := rfl
  have g7 : GV 7 = some (.int 8) := rfl
  by_cases h10 : σ.s.take 1 = [10]
  · have b10 : (sgn σ.s 0 == [10]) = true := by rw [e0, h10]; rfl
    have es : σ.stp = ⟨σ.T, σ.a + 1, σ.l + 1, 1⟩ := if_pos h10
    rw [es]
    refine k_of (n := n + 1) (fn := p_Signs_step) (B := p_Signs_stepB) (m := [some (.inst 147 i), none]) rfl rfl rfl (x := .ret (.str (sgn σ.s 0)) (H.set i (sd σ.T (σ.a + 1) (σ.l + 1) 1))) ?_ rfl
    repeat' (first | with_reducible exact hs | with_reducible exact b10 | k_updF)
  · have b10 : (sgn σ.s 0 == [10]) = false := beq_eq_false_iff_ne.mpr h10
    by_cases h9 : σ.s.take 1 = [9]
    · have b9 : (sgn σ.s 0 == [9]) = true := by rw [e0, h9]; rfl
      have es : σ.stp = ⟨σ.T, σ.a + 1, σ.l, (σ.c - 1).fdiv 8 * 8 + 8 + 1⟩ := (if_neg h10).trans (if_pos h9)
      rw [es]
      refine k_of (n := n + 1) (fn := p_Signs_step) (B := p_Signs_stepB) (m := [some (.inst 147 i), none]) rfl rfl rfl (x := .ret (.str (sgn σ.s 0)) (H.set i (sd σ.T (σ.a + 1) σ.l ((σ.c - 1).fdiv 8 * 8 + 8 + 1)))) ?_ rfl
      have m8 : binV .mul (.int ((σ.c - 1).fdiv 8)) (.int 8) = some (.int ((σ.c - 1).fdiv 8 * 8)) := if_pos (.inr (by decide))
      repeat' (first | with_reducible exact hs | with_reducible exact b10 | with_reducible exact b9 | with_reducible exact g7 | with_reducible exact m8 | k_updF)
    · have b9 : (sgn σ.s 0 == [9]) = false := beq_eq_false_iff_ne.mpr h9
      have es : σ.stp = ⟨σ.T, σ.a + 1, σ.l, σ.c + 1⟩ := (if_neg h10).trans (if_neg h9)
      rw [es]
      refine k_of (n := n + 1) (fn := p_Signs_step) (B := p_Signs_stepB) (m := [some (.inst 147 i), none]) rfl rfl rfl (x := .ret (.str (sgn σ.s 0)) (H.set i (sd σ.T (σ.a + 1) σ.l (σ.c + 1)))) ?_ rfl
      repeat' (first | with_reducible exact hs | with_reducible exact b10 | with_reducible exact b9 | k_updF)
end
end
-- Q2
section
noncomputable def among (x ls : List Nat) : Bool := match x with
  | [] => false
  | c :: r => r.isEmpty && ls.contains c
noncomputable def sSYM : List Nat := [33, 35, 36, 37, 38, 42, 43, 46, 47, 60, 61, 62, 63, 64, 92, 94, 124, 45, 126, 58]
noncomputable def sSMALL : List Nat := [97, 98, 99, 100, 101, 102, 103, 104, 105, 106, 107, 108, 109, 110, 111, 112, 113, 114, 115, 116, 117, 118, 119, 120, 121, 122, 95]
noncomputable def sGREAT : List Nat := [65, 66, 67, 68, 69, 70, 71, 72, 73, 74, 75, 76, 77, 78, 79, 80, 81, 82, 83, 84, 85, 86, 87, 88, 89, 90]
noncomputable def sDIG : List Nat := [48, 49, 50, 51, 52, 53, 54, 55, 56, 57]
noncomputable def sNAME : List Nat := sSMALL ++ sGREAT ++ sDIG ++ [39]
theorem g_sym : GV 3 = some (.str sSYM) := rfl
theorem g_small : GV 4 = some (.str sSMALL) := rfl
theorem g_great : GV 5 = some (.str sGREAT) := rfl
theorem g_dig : GV 6 = some (.str sDIG) := rfl
section
variable {W n i : Nat} {H : Hp} {σ : Sg}
theorem c_among {x ls : List Nat} (hx : x.length ≤ 1) : FF W (n + 2) 7 [.str x, .str ls] H = .ok (.bool (among x ls)) H := by
  match x, hx with
  | [], _ =>
    refine k_of (fn := p_is_among) (B := p_is_amongB) (m := [some (.str []), some (.str ls)]) rfl rfl rfl (x := .ret (.bool false) H) ?_ rfl
    repeat' (first | k_updF)
  | [c], _ =>
    refine k_of (fn := p_is_among) (B := p_is_amongB) (m := [some (.str [c]), some (.str ls)]) rfl rfl rfl (x := .ret (.bool (ls.contains c)) H) ?_ rfl
    repeat' (first | k_updF)
theorem sgn_len (s : List Nat) (k : Nat) : (sgn s k).length ≤ 1 := by unfold sgn; rw [List.length_take]; exact Nat.min_le_left ..
theorem c_names : FF W (n + 2) 8 [] H = .ok (.str sNAME) H := by
  refine k_of (fn := p_name_letters) (B := p_name_lettersB) (m := []) rfl rfl rfl (x := .ret (.str sNAME) H) ?_ rfl
  repeat' (first | with_reducible exact g_small | with_reducible exact g_great | with_reducible exact g_dig | k_updF)
noncomputable def hexVal (c : Nat) : Option Nat := hexes.idxOf? (lowerC c)
noncomputable def numOf (b : Nat) (a : Nat) : List Nat → Option Nat
  | [] => some a
  | c :: r => (hexVal c).bind fun v => numOf b (a * b + v) r
theorem num_body {F : Fns} {b : Nat} {D : List Nat} (hb : b ≤ 100) {a c x : Nat} {dv : Option V} (hc : c < 128) (hv : hexVal c = some x) :
    execSs F GV sg W p_number_of_L1 [some (.str D), some (.int b), some (.int a), some (.str [c])] H = .next [some (.str D), some (.int b), some (.int ((a * b + x : Nat) : Int)), some (.str [c])] H := by
  have hx : indexV (.str [48, 49, 50, 51, 52, 53, 54, 55, 56, 57, 97, 98, 99, 100, 101, 102]) (.str [lowerC c]) = some (.int x) := by
    refine (if_pos (e := (none : Option V)) (show hexes = hexes from rfl)).trans ?_
    unfold hexVal at hv
    rw [hv]; rfl
  have hl : lowerV (.str [c]) = some (.str [lowerC c]) := (if_pos (by rw [List.all_cons, decide_eq_true hc]; rfl)).trans (if_pos (show 1 ≤ big by decide))
  have hm : binV .mul (.int a) (.int b) = some (.int ((a : Int) * b)) := if_pos (.inr (by omega))
  have ha : binV .add (.int ((a : Int) * b)) (.int x) = some (.int ((a * b + x : Nat) : Int)) := by rw [Int.natCast_add, Int.natCast_mul]; rfl
  repeat' (first | with_reducible exact hx | with_reducible exact hl | with_reducible exact hm | with_reducible exact ha | k_updF)
theorem num_loop {F : Fns} {b : Nat} {D : List Nat} (hb : b ≤ 100) : ∀ (ds : List Nat) (a v : Nat) (dv : Option V), ds.all (· < 128) = true → numOf b a ds = some v → ∃ dv', loopF (fun m v => some (setL m 3 v)) (fun m H => execSs F GV sg W p_number_of_L1 m H) (ds.map fun c => .str [c])
    [some (.str D), some (.int b), some (.int a), dv] H = .next [some (.str D), some (.int b), some (.int v), dv'] H
  | [], a, v, dv, _, h => ⟨dv, by cases h; rfl⟩
  | c :: r, a, v, dv, ha, h => by
    rw [List.all_cons, Bool.and_eq_true] at ha
    have hc : c < 128 := of_decide_eq_true ha.1
    replace h : ((hexVal c).bind fun v => numOf b (a * b + v) r) = some v := h
    cases hv : hexVal c with
    | none => rw [hv] at h; cases h
    | some x =>
      rw [hv] at h
      obtain ⟨dv', e⟩ := num_loop (F := F) hb r (a * b + x) v (some (.str [c])) ha.2 h
      exact ⟨dv', lf_cons rfl (num_body (dv := dv) hb hc hv) e⟩
theorem c_number {ds : List Nat} {b v : Nat} (hb : b ≤ 100) (hl : ds.length ≤ 1000) (ha : ds.all (· < 128) = true) (h : numOf b 0 ds = some v) : FF W (n + 2) 12 [.str ds, .int b] H = .ok (.int v) H := by
  obtain ⟨dv', e⟩ := num_loop (F := FF W (n + 1)) (W := W) (H := H) (D := ds) hb ds 0 v none ha h
  rw [show ((0 : Nat) : Int) = 0 from rfl] at e
  have hi : itemsF (.str ds) = some (ds.map fun c => .str [c]) := if_pos (Nat.le_trans hl (by decide))
  refine k_of (fn := p_number_of) (B := p_number_ofB) (m := [some (.str ds), some (.int b), none, none]) rfl rfl rfl (x := .ret (.int v) H) ?_ rfl
  repeat' (first | with_reducible exact hi | with_reducible exact e | k_updF)
theorem c_checked {v : Nat} {ps : List V} : FF W (n + 2) 15 [.int v, .tup ps] H = if v ≤ 1114111 then .ok (.str [v]) H else .exc (.tup ps) H := by
  have g8 : GV 8 = some (.int 1114111) := rfl
  by_cases h : v ≤ 1114111
  · have h2 : decide ((v : Int) > 1114111) = false := by rw [decide_eq_false_iff_not]; omega
    have h3 : chrV (.int v) = some (.str [v]) := (if_pos ⟨Int.natCast_nonneg _, by omega⟩).trans (by rw [Int.toNat_natCast])
    refine k_of (fn := p_checked_sign) (B := p_checked_signB) (m := [some (.int v), some (.tup ps)]) rfl rfl rfl (x := .ret (.str [v]) H) ?_ (if_pos h).symm
    repeat' (first | with_reducible exact g8 | with_reducible exact h2 | with_reducible exact h3 | k_updF)
  · have h2 : decide ((v : Int) > 1114111) = true := by rw [decide_eq_true_eq]; omega
    refine k_of (fn := p_checked_sign) (B := p_checked_signB) (m := [some (.int v), some (.tup ps)]) rfl rfl rfl (x := .exc (.tup ps) H) ?_ (if_neg h).symm
    repeat' (first | with_reducible exact g8 | with_reducible exact h2 | k_updF)
noncomputable def opsL : List (List Nat) := [[46, 46], [58], [58, 58], [61], [92], [124], [60, 45], [45, 62], [64], [126], [61, 62]]
noncomputable def symKind (t : List Nat) : List Nat := if opsL.contains t then [111, 112] else if t.head? == some 58 then [99, 111, 110, 115, 121, 109] else [118, 97, 114, 115, 121, 109]
theorem c_symkind {c : Nat} {r : List Nat} (hr : r.length ≤ 1000) : FF W (n + 2) 21 [.str (c :: r)] H = .ok (.str (symKind (c :: r))) H := by
  have g1 : GV 1 = some g_OPS := rfl
  have ho : cmpV H .isin (.str (c :: r)) g_OPS = some (opsL.contains (c :: r)) := rfl
  have hx : idxV H (.str (c :: r)) (.int 0) = some (.str [c]) := idx_str (k := 0) (Nat.le_trans (Nat.succ_le_succ hr) (by decide)) rfl
  unfold symKind
  cases h : opsL.contains (c :: r) with
  | true =>
    refine k_of (fn := p_symbol_kind) (B := p_symbol_kindB) (m := [some (.str (c :: r))]) rfl rfl rfl (x := .ret (.str [111, 112]) H) ?_ rfl
    repeat' (first | with_reducible exact g1 | with_reducible exact ho | with_reducible exact h | k_updF)
  | false =>
    cases hc : (c == 58) with
    | true =>
      have hc' : ([c] == [58]) = true := by rw [beq_iff_eq.mp hc]; rfl
      refine k_of (fn := p_symbol_kind) (B := p_symbol_kindB) (m := [some (.str (c :: r))]) rfl rfl rfl (x := .ret (.str [99, 111, 110, 115, 121, 109]) H) ?_ (by rw [beq_iff_eq.mp hc]; rfl)
      repeat' (first | with_reducible exact g1 | with_reducible exact ho | with_reducible exact h | with_reducible exact hx | with_reducible exact hc' | k_updF)
    | false =>
      have hc' : ([c] == [58]) = false := by rw [beq_eq_false_iff_ne] at hc ⊢; exact fun e => hc (List.cons.inj e).1
      have hc2 : ((c :: r).head? == some 58) = false := by rw [beq_eq_false_iff_ne] at hc ⊢; exact fun e => hc (Option.some.inj e)
      refine k_of (fn := p_symbol_kind) (B := p_symbol_kindB) (m := [some (.str (c :: r))]) rfl rfl rfl (x := .ret (.str [118, 97, 114, 115, 121, 109]) H) ?_ (by rw [hc2]; rfl)
      repeat' (first | with_reducible exact g1 | with_reducible exact ho | with_reducible exact h | with_reducible exact hx | with_reducible exact hc' | k_updF)
end
end
-- Q3
section
theorem slice_s (σ : Sg) (n : Nat) : (σ.T.take (σ.a + n)).drop σ.a = σ.s.take n := by
  unfold Sg.s
  rw [List.drop_take]; congr 1; omega
noncomputable def twl (ls s : List Nat) : Nat := (s.takeWhile ls.contains).length
theorem twl_yes {ls : List Nat} {c : Nat} {r : List Nat} (h : ls.contains c = true) : twl ls (c :: r) = twl ls r + 1 := congrArg List.length (List.takeWhile_cons_of_pos h)
theorem twl_no {ls : List Nat} {c : Nat} {r : List Nat} (h : ls.contains c = false) : twl ls (c :: r) = 0 := congrArg List.length (List.takeWhile_cons_of_neg (by rw [h]; exact Bool.false_ne_true))
theorem twl_take (ls : List Nat) : ∀ s : List Nat, s.take (twl ls s) = s.takeWhile ls.contains
  | [] => rfl
  | c :: r => by
    cases h : ls.contains c with
    | true => rw [twl_yes h, List.takeWhile_cons_of_pos h, List.take_succ_cons, twl_take ls r]
    | false => rw [twl_no h, List.takeWhile_cons_of_neg (by rw [h]; exact Bool.false_ne_true)]; rfl
theorem twl_le (ls s : List Nat) : twl ls s ≤ s.length := (List.takeWhile_sublist _).length_le
section
variable {W n i : Nat} {H : Hp} {σ : Sg}
theorem Sg.sgn0_nil (h : σ.s = []) : sgn σ.s 0 = [] := by rw [h]; rfl
theorem Sg.sgn0_cons {c : Nat} {r : List Nat} (h : σ.s = c :: r) : sgn σ.s 0 = [c] := by rw [h]; rfl
theorem Sg.stp_cons {c : Nat} {r : List Nat} (h : σ.s = c :: r) : σ.stp.s = r := by rw [σ.stp_s, h]; rfl
theorem Sg.len (ok : σ.Ok) : σ.s.length ≤ 1000 := by
  unfold Sg.s; rw [List.length_drop]; exact Nat.le_trans (Nat.sub_le _ _) ok.t
theorem slice_v (ok : σ.Ok) (m : Nat) : sliceV (.str σ.T) (.int (σ.a : Int)) (.int ((σ.a + m : Nat) : Int)) = some (.str (σ.s.take m)) :=
  (if_pos ⟨Int.natCast_nonneg _, by omega, ok.big⟩).trans (by rw [Int.toNat_natCast, Int.toNat_natCast, slice_s])
theorem take_loop (hi : i < H.length) {ls : List Nat} {b : Option V} : ∀ (r : List Nat) (σ : Sg) (k : Nat), σ.s = r → σ.Ok → r.length < k →
    loopW (evalE (FF W (n + 3)) GV sg p_Signs_take_T1) (fun m H => execSs (FF W (n + 3)) GV sg W p_Signs_take_L1 m H) k [some (.inst 147 i), some (.str ls), b] (H.set i σ.dict) = .next [some (.inst 147 i), some (.str ls), b] (H.set i (σ.adv (twl ls r)).dict)
  | [], σ, k + 1, hs, ok, _ => by
    have e := k_sign0 (W := W) (n := n + 1) hi ok
    rw [σ.sgn0_nil hs] at e
    refine lw_end (H1 := H.set i σ.dict) ?_
    repeat' (first | with_reducible exact e | k_updF)
  | c :: r, σ, k + 1, hs, ok, hk => by
    have e := k_sign0 (W := W) (n := n + 1) hi ok
    rw [σ.sgn0_cons hs] at e
    cases hc : ls.contains c with
    | true =>
      have es := k_step (W := W) (n := n) hi ok
      rw [twl_yes hc]
      refine lw_turn (H1 := H.set i σ.dict) (x := .next [some (.inst 147 i), some (.str ls), b] (H.set i σ.stp.dict)) ?_ ?_ (take_loop hi r σ.stp k (σ.stp_cons hs) ok.stp (Nat.lt_of_succ_lt_succ hk))
      · repeat' (first | with_reducible exact e | exact (congrArg some hc) | k_updF)
      · repeat' (first | with_reducible exact es | k_updF)
    | false =>
      rw [twl_no hc]
      refine lw_end (H1 := H.set i σ.dict) ?_
      repeat' (first | with_reducible exact e | exact (congrArg some hc) | k_updF)
theorem k_take (hi : i < H.length) (ok : σ.Ok) (hW : W = 1001) (ls : List Nat) : FF W (n + 4) 5 [.inst 147 i, .str ls] (H.set i σ.dict) = .ok (.str (σ.s.takeWhile ls.contains)) (H.set i (σ.adv (twl ls σ.s)).dict) := by
  have l := take_loop (W := W) (n := n) (ls := ls) (b := some (.int σ.a)) hi σ.s σ W rfl ok (by rw [hW]; exact Nat.lt_succ_of_le (σ.len ok))
  have e3 := slice_v ok (twl ls σ.s)
  rw [twl_take, ← σ.adv_a] at e3
  have at2 : attrV sg (H.set i (σ.adv (twl ls σ.s)).dict) [116, 101, 120, 116] (.inst 147 i) = some (.str σ.T) := by rw [← σ.adv_T (twl ls σ.s)]; exact a_text hi
  refine k_of (n := n + 2) (fn := p_Signs_take) (B := p_Signs_takeB) (m := [some (.inst 147 i), some (.str ls), none]) rfl rfl rfl (x := .ret (.str (σ.s.takeWhile ls.contains)) (H.set i (σ.adv (twl ls σ.s)).dict)) ?_ rfl
  repeat' (first | with_reducible exact l | with_reducible exact at2 | with_reducible exact e3 | k_updF)
end
/-- what a reader of signs gives: a value and how many were taken; or where it fails, and how many were taken -/
inductive LX where
  | ok (v : V) (n : Nat)
  | err (d e : Nat)
noncomputable def LX.run (H : Hp) (i : Nat) (σ : Sg) (r : LX) : Rs V := match r with
  | .ok v n => .ok v (H.set i (σ.adv n).dict)
  | .err d e => .exc (σ.adv d).plc (H.set i (σ.adv e).dict)
noncomputable def LX.shift (k : Nat) (r : LX) : LX := match r with
  | .ok v n => .ok v (k + n)
  | .err d e => .err (k + d) (k + e)
theorem LX.run_shift (H : Hp) (i : Nat) (σ : Sg) (k : Nat) (r : LX) : (r.shift k).run H i σ = r.run H i (σ.adv k) := by
  cases r with
  | ok v n => show Rs.ok _ (H.set i (σ.adv (k + n)).dict) = Rs.ok _ (H.set i ((σ.adv k).adv n).dict); rw [Sg.adv_adv]
  | err d e => show Rs.exc (σ.adv (k + d)).plc (H.set i (σ.adv (k + e)).dict) = Rs.exc ((σ.adv k).adv d).plc (H.set i ((σ.adv k).adv e).dict); rw [Sg.adv_adv, Sg.adv_adv]
/-- a dash run, then no symbol -/
noncomputable def lineQ (s : List Nat) : Bool := s.take 2 == [45, 45] && !among (sgn s (2 + twl [45] (s.drop 2))) sSYM
theorem sgn_drop {s r : List Nat} {k : Nat} (h : s.drop k = r) : sgn s k = r.take 1 := congrArg (List.take 1) h
theorem drop_cons {s r : List Nat} {c k : Nat} (h : s.drop k = c :: r) : s.drop (k + 1) = r := by
  have : s.drop (k + 1) = (s.drop k).drop 1 := by rw [List.drop_drop]
  rw [this, h]; rfl
section
variable {W n i : Nat} {H : Hp} {σ : Sg}
theorem dash_loop (hi : i < H.length) (ok : σ.Ok) : ∀ (r : List Nat) (k f : Nat), σ.s.drop k = r → r.length < f →
    loopW (evalE (FF W (n + 2)) GV sg p_is_line_comment_T1) (fun m H => execSs (FF W (n + 2)) GV sg W p_is_line_comment_L1 m H) f [some (.inst 147 i), some (.int k)] (H.set i σ.dict) = .next [some (.inst 147 i), some (.int ((k + twl [45] r : Nat) : Int))] (H.set i σ.dict)
  | [], k, f + 1, hs, _ => by
    have e := k_sign (W := W) (n := n) hi ok k
    rw [sgn_drop hs] at e
    refine lw_end (H1 := H.set i σ.dict) ?_
    repeat' (first | with_reducible exact e | k_updF)
  | c :: r, k, f + 1, hs, hk => by
    have e := k_sign (W := W) (n := n) hi ok k
    rw [sgn_drop hs] at e
    cases hc : ([c] == [45]) with
    | true =>
      have hc2 : ([45] : List Nat).contains c = true := by rw [(List.cons.inj (beq_iff_eq.mp hc)).1]; rfl
      rw [twl_yes hc2, show k + (twl [45] r + 1) = k + 1 + twl [45] r by omega]
      refine lw_turn (H1 := H.set i σ.dict) (x := .next [some (.inst 147 i), some (.int ((k + 1 : Nat) : Int))] (H.set i σ.dict)) ?_ ?_ (dash_loop hi ok r (k + 1) f (drop_cons hs) (Nat.lt_of_succ_lt_succ hk))
      · repeat' (first | with_reducible exact e | exact (congrArg some hc) | k_updF)
      · repeat' (first | k_updF)
    | false =>
      have hc2 : ([45] : List Nat).contains c = false := by
        rw [beq_eq_false_iff_ne] at hc
        exact Bool.eq_false_iff.mpr fun q => hc (by rw [List.mem_singleton.mp (List.contains_iff_mem.mp q)])
      rw [twl_no hc2]
      refine lw_end (H1 := H.set i σ.dict) ?_
      repeat' (first | with_reducible exact e | exact (congrArg some hc) | k_updF)
theorem k_line (hi : i < H.length) (ok : σ.Ok) (hW : W = 1001) : FF W (n + 3) 9 [.inst 147 i] (H.set i σ.dict) = .ok (.bool (lineQ σ.s)) (H.set i σ.dict) := by
  have e1 : FF W (n + 2) 3 [.inst 147 i, .str [45, 45]] (H.set i σ.dict) = .ok (.bool (σ.s.take 2 == [45, 45])) (H.set i σ.dict) := k_starts (W := W) (n := n) hi ok [45, 45] (by decide)
  have hd := dash_loop (W := W) (n := n) hi ok (σ.s.drop 2) 2 W rfl (by have := σ.len ok; rw [List.length_drop]; omega)
  have e2 := k_sign (W := W) (n := n) hi ok (2 + twl [45] (σ.s.drop 2))
  have e3 := c_among (W := W) (n := n) (H := H.set i σ.dict) (ls := sSYM) (sgn_len σ.s (2 + twl [45] (σ.s.drop 2)))
  rw [show ((2 : Nat) : Int) = 2 from rfl] at hd
  cases hb : (σ.s.take 2 == [45, 45]) with
  | false =>
    rw [hb] at e1
    refine k_of (n := n + 1) (fn := p_is_line_comment) (B := p_is_line_commentB) (m := [some (.inst 147 i), none]) rfl rfl rfl (x := .ret (.bool false) (H.set i σ.dict)) ?_ (by unfold lineQ; rw [hb]; rfl)
    repeat' (first | with_reducible exact e1 | k_updF)
  | true =>
    rw [hb] at e1
    refine k_of (n := n + 1) (fn := p_is_line_comment) (B := p_is_line_commentB) (m := [some (.inst 147 i), none]) rfl rfl rfl (x := .ret (.bool (!among (sgn σ.s (2 + twl [45] (σ.s.drop 2))) sSYM)) (H.set i σ.dict)) ?_ (by unfold lineQ; rw [hb]; rfl)
    repeat' (first | with_reducible exact e1 | with_reducible exact hd | with_reducible exact e2 | with_reducible exact e3 | with_reducible exact g_sym | k_updF)
end
end
-- Q4
section
noncomputable def keysL : List (List Nat) := [[99, 97, 115, 101], [99, 108, 97, 115, 115], [100, 97, 116, 97], [100, 101, 114, 105, 118, 105, 110, 103], [100, 111], [101, 108, 115, 101], [105, 102], [105, 109, 112, 111, 114, 116], [105, 110], [105, 110, 102, 105, 120], [105, 110, 102, 105, 120, 108], [105, 110, 102, 105, 120, 114], [105, 110, 115, 116, 97, 110, 99, 101], [108, 101, 116], [109, 111, 100, 117, 108, 101], [110, 101, 119, 116, 121, 112, 101], [111, 102], [116, 104, 101, 110], [116, 121, 112, 101], [119, 104, 101, 114, 101], [95]]
noncomputable def sCON : List Nat := [99, 111, 110]
noncomputable def sSYMW : List Nat := [115, 121, 109]
noncomputable def sVAR : List Nat := [118, 97, 114]
noncomputable def behindQ (s : List Nat) : V :=
  bif sgn s 0 == [46] then
    bif among (sgn s 1) sGREAT then .str sCON else bif among (sgn s 1) sSYM then .str sSYMW else bif among (sgn s 1) sSMALL then
      (bif keysL.contains ((s.drop 1).takeWhile sNAME.contains) then .none else .str sVAR) else .none
  else .none
theorem cInK (H : Hp) (x : List Nat) : cmpV H .isin (.str x) g_KEYS = some (keysL.contains x) := rfl
section
variable {W n i : Nat} {H : Hp} {σ : Sg}
theorem run_test {c : Nat} {ls : List Nat} (h : ls.contains c = true) : among [c] ls = true := h
theorem sym_loop (hi : i < H.length) (ok : σ.Ok) : ∀ (r : List Nat) (k f : Nat), σ.s.drop k = r → r.length < f →
    loopW (evalE (FF W (n + 2)) GV sg p_symbols_ahead_T1) (fun m H => execSs (FF W (n + 2)) GV sg W p_symbols_ahead_L1 m H) f [some (.inst 147 i), some (.int k)] (H.set i σ.dict) = .next [some (.inst 147 i), some (.int ((k + twl sSYM r : Nat) : Int))] (H.set i σ.dict)
  | [], k, f + 1, hs, _ => by
    have e : FF W (n + 2) 2 [.inst 147 i, .int k] (H.set i σ.dict) = .ok (.str []) (H.set i σ.dict) := (k_sign (W := W) (n := n) hi ok k).trans (by rw [sgn_drop hs]; rfl)
    have ea := c_among (W := W) (n := n) (H := H.set i σ.dict) (ls := sSYM) (x := []) (by decide)
    refine lw_end (H1 := H.set i σ.dict) ?_
    repeat' (first | with_reducible exact e | with_reducible exact ea | with_reducible exact g_sym | k_updF)
  | c :: r, k, f + 1, hs, hk => by
    have e : FF W (n + 2) 2 [.inst 147 i, .int k] (H.set i σ.dict) = .ok (.str [c]) (H.set i σ.dict) := (k_sign (W := W) (n := n) hi ok k).trans (by rw [sgn_drop hs]; rfl)
    have ea := c_among (W := W) (n := n) (H := H.set i σ.dict) (ls := sSYM) (x := [c]) (Nat.le_refl 1)
    cases hc : sSYM.contains c with
    | true =>
      rw [run_test hc] at ea
      rw [twl_yes hc, show k + (twl sSYM r + 1) = k + 1 + twl sSYM r by omega]
      refine lw_turn (H1 := H.set i σ.dict) (x := .next [some (.inst 147 i), some (.int ((k + 1 : Nat) : Int))] (H.set i σ.dict)) ?_ ?_ (sym_loop hi ok r (k + 1) f (drop_cons hs) (Nat.lt_of_succ_lt_succ hk))
      · repeat' (first | with_reducible exact e | with_reducible exact ea | with_reducible exact g_sym | k_updF)
      · repeat' (first | k_updF)
    | false =>
      rw [show among [c] sSYM = false from hc] at ea
      rw [twl_no hc]
      refine lw_end (H1 := H.set i σ.dict) ?_
      repeat' (first | with_reducible exact e | with_reducible exact ea | with_reducible exact g_sym | k_updF)
theorem name_loop (hi : i < H.length) (ok : σ.Ok) {x : Option V} : ∀ (r : List Nat) (k f : Nat), σ.s.drop k = r → r.length < f →
    loopW (evalE (FF W (n + 2)) GV sg p_behind_point_T1) (fun m H => execSs (FF W (n + 2)) GV sg W p_behind_point_L1 m H) f [some (.inst 147 i), x, some (.int k)] (H.set i σ.dict) = .next [some (.inst 147 i), x, some (.int ((k + twl sNAME r : Nat) : Int))] (H.set i σ.dict)
  | [], k, f + 1, hs, _ => by
    have e : FF W (n + 2) 2 [.inst 147 i, .int k] (H.set i σ.dict) = .ok (.str []) (H.set i σ.dict) := (k_sign (W := W) (n := n) hi ok k).trans (by rw [sgn_drop hs]; rfl)
    have ea := c_among (W := W) (n := n) (H := H.set i σ.dict) (ls := sNAME) (x := []) (by decide)
    refine lw_end (H1 := H.set i σ.dict) ?_
    repeat' (first | with_reducible exact e | with_reducible exact ea | with_reducible exact c_names | k_updF)
  | c :: r, k, f + 1, hs, hk => by
    have e : FF W (n + 2) 2 [.inst 147 i, .int k] (H.set i σ.dict) = .ok (.str [c]) (H.set i σ.dict) := (k_sign (W := W) (n := n) hi ok k).trans (by rw [sgn_drop hs]; rfl)
    have ea := c_among (W := W) (n := n) (H := H.set i σ.dict) (ls := sNAME) (x := [c]) (Nat.le_refl 1)
    cases hc : sNAME.contains c with
    | true =>
      rw [run_test hc] at ea
      rw [twl_yes hc, show k + (twl sNAME r + 1) = k + 1 + twl sNAME r by omega]
      refine lw_turn (H1 := H.set i σ.dict) (x := .next [some (.inst 147 i), x, some (.int ((k + 1 : Nat) : Int))] (H.set i σ.dict)) ?_ ?_ (name_loop hi ok r (k + 1) f (drop_cons hs) (Nat.lt_of_succ_lt_succ hk))
      · repeat' (first | with_reducible exact e | with_reducible exact ea | with_reducible exact c_names | k_updF)
      · repeat' (first | k_updF)
    | false =>
      rw [show among [c] sNAME = false from hc] at ea
      rw [twl_no hc]
      refine lw_end (H1 := H.set i σ.dict) ?_
      repeat' (first | with_reducible exact e | with_reducible exact ea | with_reducible exact c_names | k_updF)
theorem slice_1 (ok : σ.Ok) (n : Nat) : sliceV (.str σ.T) (.int ((σ.a : Int) + 1)) (.int ((σ.a : Int) + ((1 + n : Nat) : Int))) = some (.str ((σ.s.drop 1).take n)) :=
  (if_pos ⟨by omega, by omega, ok.big⟩).trans (by
    rw [show ((σ.a : Int) + 1).toNat = σ.a + 1 by omega, show ((σ.a : Int) + ((1 + n : Nat) : Int)).toNat = σ.a + (1 + n) by omega]
    unfold Sg.s
    rw [List.drop_take, List.drop_drop, show σ.a + (1 + n) - (σ.a + 1) = n by omega])
theorem k_symahead (hi : i < H.length) (ok : σ.Ok) (hW : W = 1001) : FF W (n + 3) 24 [.inst 147 i] (H.set i σ.dict) = .ok (.str ((σ.s.drop 1).takeWhile sSYM.contains)) (H.set i σ.dict) := by
  have hd := sym_loop (W := W) (n := n) hi ok (σ.s.drop 1) 1 W rfl (by have := σ.len ok; rw [List.length_drop]; omega)
  rw [show ((1 : Nat) : Int) = 1 from rfl] at hd
  have e4 := slice_1 ok (twl sSYM (σ.s.drop 1))
  rw [twl_take] at e4
  refine k_of (n := n + 1) (fn := p_symbols_ahead) (B := p_symbols_aheadB) (m := [some (.inst 147 i), none]) rfl rfl rfl (x := .ret (.str ((σ.s.drop 1).takeWhile sSYM.contains)) (H.set i σ.dict)) ?_ rfl
  repeat' (first | with_reducible exact hd | with_reducible exact e4 | k_updF)
theorem k_behind (hi : i < H.length) (ok : σ.Ok) (hW : W = 1001) : FF W (n + 3) 22 [.inst 147 i] (H.set i σ.dict) = .ok (behindQ σ.s) (H.set i σ.dict) := by
  have s0 := k_sign0 (W := W) (n := n) hi ok
  have s1 := k_sign1 (W := W) (n := n) hi ok
  have ag := c_among (W := W) (n := n) (H := H.set i σ.dict) (ls := sGREAT) (sgn_len σ.s 1)
  have as := c_among (W := W) (n := n) (H := H.set i σ.dict) (ls := sSYM) (sgn_len σ.s 1)
  have am := c_among (W := W) (n := n) (H := H.set i σ.dict) (ls := sSMALL) (sgn_len σ.s 1)
  have e : ∀ v, behindQ σ.s = v → execSs (FF W (n + 2)) GV sg W p_behind_pointB [some (.inst 147 i), none, none] (H.set i σ.dict) = .ret v (H.set i σ.dict) → FF W (n + 3) 22 [.inst 147 i] (H.set i σ.dict) = .ok (behindQ σ.s) (H.set i σ.dict) := fun v h h2 =>
    k_of (n := n + 1) (fn := p_behind_point) (B := p_behind_pointB) (m := [some (.inst 147 i), none, none]) rfl rfl rfl h2 (by rw [h]; rfl)
  cases h0 : (sgn σ.s 0 == [46]) with
  | false =>
    refine e .none (by unfold behindQ; rw [h0]; rfl) ?_
    repeat' (first | with_reducible exact s0 | with_reducible exact h0 | with_reducible exact nF h0 | with_reducible exact nT h0 | k_updF)
  | true =>
    cases h1 : among (sgn σ.s 1) sGREAT with
    | true =>
      refine e (.str sCON) (by unfold behindQ; rw [h0, h1]; rfl) ?_
      repeat' (first | with_reducible exact s0 | with_reducible exact h0 | with_reducible exact nF h0 | with_reducible exact nT h0 | with_reducible exact s1 | with_reducible exact ag | with_reducible exact h1 | with_reducible exact nF h1 | with_reducible exact nT h1 | with_reducible exact g_great | k_updF)
    | false =>
      cases h2 : among (sgn σ.s 1) sSYM with
      | true =>
        refine e (.str sSYMW) (by unfold behindQ; rw [h0, h1, h2]; rfl) ?_
        repeat' (first | with_reducible exact s0 | with_reducible exact h0 | with_reducible exact nF h0 | with_reducible exact nT h0 | with_reducible exact s1 | with_reducible exact ag | with_reducible exact as | with_reducible exact h1 | with_reducible exact nF h1 | with_reducible exact nT h1 | with_reducible exact h2 | with_reducible exact g_great | with_reducible exact g_sym | k_updF)
      | false =>
        cases h3 : among (sgn σ.s 1) sSMALL with
        | false =>
          refine e .none (by unfold behindQ; rw [h0, h1, h2, h3]; rfl) ?_
          repeat' (first | with_reducible exact s0 | with_reducible exact h0 | with_reducible exact nF h0 | with_reducible exact nT h0 | with_reducible exact s1 | with_reducible exact ag | with_reducible exact as | with_reducible exact am | with_reducible exact h1 | with_reducible exact nF h1 | with_reducible exact nT h1 | with_reducible exact h2 | with_reducible exact h3 | with_reducible exact nF h3 | with_reducible exact nT h3 | with_reducible exact g_great | with_reducible exact g_sym | with_reducible exact g_small | k_updF)
        | true =>
          have hd := name_loop (W := W) (n := n) hi ok (x := some (.str (sgn σ.s 1))) (σ.s.drop 1) 1 W rfl (by have := σ.len ok; rw [List.length_drop]; omega)
          rw [show ((1 : Nat) : Int) = 1 from rfl] at hd
          have e4 := slice_1 ok (twl sNAME (σ.s.drop 1))
          rw [twl_take] at e4
          have gk : GV 0 = some g_KEYS := rfl
          cases h4 : keysL.contains ((σ.s.drop 1).takeWhile sNAME.contains) with
          | true =>
            refine e .none (by unfold behindQ; rw [h0, h1, h2, h3, h4]; rfl) ?_
            repeat' (first | with_reducible exact s0 | with_reducible exact h0 | with_reducible exact nF h0 | with_reducible exact nT h0 | with_reducible exact s1 | with_reducible exact ag | with_reducible exact as | with_reducible exact am | with_reducible exact h1 | with_reducible exact nF h1 | with_reducible exact nT h1 | with_reducible exact h2 | with_reducible exact h3 | with_reducible exact nF h3 | with_reducible exact nT h3 | with_reducible exact g_great | with_reducible exact g_sym | with_reducible exact g_small | with_reducible exact hd | with_reducible exact e4 | with_reducible exact gk | with_reducible exact (cInK _ _) | with_reducible exact h4 | with_reducible exact nF h4 | with_reducible exact nT h4 | k_updF)
          | false =>
            refine e (.str sVAR) (by unfold behindQ; rw [h0, h1, h2, h3, h4]; rfl) ?_
            repeat' (first | with_reducible exact s0 | with_reducible exact h0 | with_reducible exact nF h0 | with_reducible exact nT h0 | with_reducible exact s1 | with_reducible exact ag | with_reducible exact as | with_reducible exact am | with_reducible exact h1 | with_reducible exact nF h1 | with_reducible exact nT h1 | with_reducible exact h2 | with_reducible exact h3 | with_reducible exact nF h3 | with_reducible exact nT h3 | with_reducible exact g_great | with_reducible exact g_sym | with_reducible exact g_small | with_reducible exact hd | with_reducible exact e4 | with_reducible exact gk | with_reducible exact (cInK _ _) | with_reducible exact h4 | with_reducible exact nF h4 | with_reducible exact nT h4 | k_updF)
end
end
-- Q5
section
noncomputable def sBL : List Nat := [32, 9, 10, 13, 12, 11]
noncomputable def sHEX : List Nat := [48, 49, 50, 51, 52, 53, 54, 55, 56, 57, 97, 98, 99, 100, 101, 102, 65, 66, 67, 68, 69, 70]
noncomputable def sOCT : List Nat := [48, 49, 50, 51, 52, 53, 54, 55]
noncomputable def numV (b : Nat) (ds : List Nat) : Nat := (numOf b 0 ds).getD 0
theorem hex_some : (sHEX.all fun c => (hexVal c).isSome && decide (c < 128)) = true := by decide +kernel
theorem numOf_some {b : Nat} : ∀ (ds : List Nat) (a : Nat), (∀ c ∈ ds, c ∈ sHEX) → (numOf b a ds).isSome = true ∧ ds.all (· < 128) = true
  | [], a, _ => ⟨rfl, rfl⟩
  | c :: r, a, h => by
    have q := Bool.and_eq_true_iff.mp (List.all_eq_true.mp hex_some c (h c (List.mem_cons_self ..)))
    obtain ⟨v, hv⟩ := Option.isSome_iff_exists.mp q.1
    have ih := numOf_some (b := b) r (a * b + v) (fun x hx => h x (List.mem_cons_of_mem _ hx))
    refine ⟨?_, ?_⟩
    · show (((hexVal c).bind fun v => numOf b (a * b + v) r)).isSome = true
      rw [hv]; exact ih.1
    · rw [List.all_cons, ih.2, q.2]; rfl
theorem tw_all {ls : List Nat} (hl : ∀ c ∈ ls, c ∈ sHEX) : ∀ s : List Nat, ∀ c ∈ s.takeWhile ls.contains, c ∈ sHEX
  | [], c, hc => nomatch hc
  | x :: r, c, hc => by
    cases hx : ls.contains x with
    | false => rw [List.takeWhile_cons_of_neg (by rw [hx]; exact Bool.false_ne_true)] at hc; cases hc
    | true =>
      rw [List.takeWhile_cons_of_pos hx] at hc
      rcases List.mem_cons.mp hc with e | e
      · rw [e]; exact hl x (List.contains_iff_mem.mp hx)
      · exact tw_all hl r c e
theorem dig_hex : ∀ c ∈ sDIG, c ∈ sHEX := by decide +kernel
theorem oct_hex : ∀ c ∈ sOCT, c ∈ sHEX := by decide +kernel
theorem sgn_dd (s : List Nat) (n k : Nat) : sgn (s.drop n) k = sgn s (n + k) := by unfold sgn; rw [List.drop_drop]
section
variable {W n i : Nat} {H : Hp} {σ : Sg}
theorem k_stepn (hi : i < H.length) (ok : σ.Ok) (k : Nat) : FF W (n + 3) 4 [.inst 147 i] (H.set i (σ.adv k).dict) = .ok (.str (sgn σ.s k)) (H.set i (σ.adv (k + 1)).dict) := by
  have := k_step (W := W) (n := n) hi (ok.adv k)
  rw [Sg.adv_s, Sg.adv_succ, sgn_dd] at this
  exact this
theorem k_step1 (hi : i < H.length) (ok : σ.Ok) : FF W (n + 3) 4 [.inst 147 i] (H.set i σ.dict) = .ok (.str (sgn σ.s 0)) (H.set i (σ.adv 1).dict) := k_stepn hi ok 0
theorem k_signn (hi : i < H.length) (ok : σ.Ok) (k : Nat) : FF W (n + 2) 2 [.inst 147 i] (H.set i (σ.adv k).dict) = .ok (.str (sgn σ.s k)) (H.set i (σ.adv k).dict) := by
  have := k_sign0 (W := W) (n := n) hi (ok.adv k)
  rw [Sg.adv_s, sgn_dd] at this
  exact this
theorem k_taken (hi : i < H.length) (ok : σ.Ok) (hW : W = 1001) (ls : List Nat) (k : Nat) : FF W (n + 4) 5 [.inst 147 i, .str ls] (H.set i (σ.adv k).dict) = .ok (.str ((σ.s.drop k).takeWhile ls.contains)) (H.set i (σ.adv (k + twl ls (σ.s.drop k))).dict) := by
  have := k_take (W := W) (n := n) hi (ok.adv k) hW ls
  rw [Sg.adv_s, Sg.adv_adv] at this
  exact this
theorem k_skipgap (hi : i < H.length) (ok : σ.Ok) (hW : W = 1001) (p : V) : FF W (n + 5) 19 [.inst 147 i, p] (H.set i σ.dict) =
    bif sgn σ.s (twl sBL σ.s) == [92] then .ok .none (H.set i (σ.adv (twl sBL σ.s + 1)).dict) else .exc p (H.set i (σ.adv (twl sBL σ.s + 1)).dict) := by
  have t : FF W (n + 4) 5 [.inst 147 i, .str [32, 9, 10, 13, 12, 11]] (H.set i σ.dict) = .ok (.str (σ.s.takeWhile sBL.contains)) (H.set i (σ.adv (twl sBL σ.s)).dict) := k_take (W := W) (n := n) hi ok hW sBL
  have s := k_stepn (W := W) (n := n + 1) hi ok (twl sBL σ.s)
  cases h : (sgn σ.s (twl sBL σ.s) == [92]) with
  | true =>
    refine k_of (n := n + 3) (fn := p_skip_gap) (B := p_skip_gapB) (m := [some (.inst 147 i), some p]) rfl rfl rfl (x := .next [some (.inst 147 i), some p] (H.set i (σ.adv (twl sBL σ.s + 1)).dict)) ?_ rfl
    repeat' (first | with_reducible exact t | with_reducible exact s | with_reducible exact h | with_reducible exact nF h | with_reducible exact nT h | k_updF)
  | false =>
    refine k_of (n := n + 3) (fn := p_skip_gap) (B := p_skip_gapB) (m := [some (.inst 147 i), some p]) rfl rfl rfl (x := .exc p (H.set i (σ.adv (twl sBL σ.s + 1)).dict)) ?_ rfl
    repeat' (first | with_reducible exact t | with_reducible exact s | with_reducible exact h | with_reducible exact nF h | with_reducible exact nT h | k_updF)
theorem k_num {ls s : List Nat} {b : Nat} (hl : ∀ c ∈ ls, c ∈ sHEX) (hs : s.length ≤ 1000) (hb : b ≤ 100) : FF W (n + 2) 12 [.str (s.takeWhile ls.contains), .int b] H = .ok (.int (numV b (s.takeWhile ls.contains))) H := by
  obtain ⟨h1, h2⟩ := numOf_some (b := b) _ 0 (tw_all hl s)
  obtain ⟨v, hv⟩ := Option.isSome_iff_exists.mp h1
  have := c_number (W := W) (n := n) (H := H) hb (Nat.le_trans (List.takeWhile_sublist _).length_le hs) h2 hv
  rw [this]
  unfold numV; rw [hv]; rfl
theorem len_drop (ok : σ.Ok) (k : Nat) : (σ.s.drop k).length ≤ 1000 := by rw [List.length_drop]; exact Nat.le_trans (Nat.sub_le _ _) (σ.len ok)
/-- the letters behind 0x, 0o -/
noncomputable def lettersF (s : List Nat) : Option (List Nat × Nat) :=
  bif sgn s 0 == [48] then (bif (sgn s 1).map lowerC == [120] then some (sHEX, 16) else bif (sgn s 1).map lowerC == [111] then some (sOCT, 8) else none) else none
noncomputable def bnF (s : List Nat) : Option (Nat × Nat) := (lettersF s).bind fun x =>
  bif among (sgn s 2) x.1 then some (numV x.2 ((s.drop 2).takeWhile x.1.contains), 2 + twl x.1 (s.drop 2)) else none
noncomputable def bnR (H : Hp) (i : Nat) (σ : Sg) (o : Option (Nat × Nat)) : Rs V := match o with
  | none => .ok .none (H.set i σ.dict)
  | some x => .ok (.int x.1) (H.set i (σ.adv x.2).dict)
theorem k_based (hi : i < H.length) (ok : σ.Ok) (hW : W = 1001) (h7 : (sgn σ.s 1).all (· < 128) = true) : FF W (n + 5) 13 [.inst 147 i] (H.set i σ.dict) = bnR H i σ (bnF σ.s) := by
  have s0 := k_sign0 (W := W) (n := n + 2) hi ok
  have s1 := k_sign1 (W := W) (n := n + 2) hi ok
  have s2 := k_sign2 (W := W) (n := n + 2) hi ok
  have st := k_step1 (W := W) (n := n + 1) hi ok
  have st2 := k_stepn (W := W) (n := n + 1) hi ok 1
  have lw : lowerV (.str (sgn σ.s 1)) = some (.str ((sgn σ.s 1).map lowerC)) := (if_pos h7).trans (if_pos (Nat.le_trans (sgn_len _ _) (by decide)))
  have e : ∀ z, bnF σ.s = z → (∀ x, fin x = bnR H i σ z → execSs (FF W (n + 4)) GV sg W p_based_numberB [some (.inst 147 i), none, none] (H.set i σ.dict) = x → FF W (n + 5) 13 [.inst 147 i] (H.set i σ.dict) = bnR H i σ (bnF σ.s)) := fun z h x h1 h2 =>
    k_of (n := n + 3) (fn := p_based_number) (B := p_based_numberB) (m := [some (.inst 147 i), none, none]) rfl rfl rfl h2 (h1.trans (by rw [h]))
  cases h0 : (sgn σ.s 0 == [48]) with
  | false =>
    refine e none (by unfold bnF lettersF; rw [h0]; rfl) (.ret .none (H.set i σ.dict)) rfl ?_
    repeat' (first | with_reducible exact s0 | with_reducible exact h0 | with_reducible exact nF h0 | with_reducible exact nT h0 | with_reducible exact g_dig | k_updF)
  | true =>
    cases hx : ((sgn σ.s 1).map lowerC == [120]) with
    | true =>
      have dg : dgetV (.dct [([120], .str sHEX), ([111], .str sOCT)]) (.str ((sgn σ.s 1).map lowerC)) = some (.str sHEX) := by rw [beq_iff_eq.mp hx]; rfl
      have am := c_among (W := W) (n := n + 2) (H := H.set i σ.dict) (ls := sHEX) (sgn_len σ.s 2)
      have t := k_taken (W := W) (n := n) hi ok hW sHEX 2
      have nu : FF W (n + 4) 12 [.str ((σ.s.drop 2).takeWhile sHEX.contains), .int 16] (H.set i (σ.adv (2 + twl sHEX (σ.s.drop 2))).dict) = _ := k_num (W := W) (n := n + 2) (H := H.set i (σ.adv (2 + twl sHEX (σ.s.drop 2))).dict) (ls := sHEX) (b := 16) (fun _ h => h) (len_drop ok 2) (by decide)
      cases ha : among (sgn σ.s 2) sHEX with
      | true =>
        refine e (some (numV 16 ((σ.s.drop 2).takeWhile sHEX.contains), 2 + twl sHEX (σ.s.drop 2))) (by unfold bnF lettersF; rw [h0, hx]; show (bif among (sgn σ.s 2) sHEX then _ else _) = _; rw [ha]; rfl) (.ret (.int (numV 16 ((σ.s.drop 2).takeWhile sHEX.contains))) (H.set i (σ.adv (2 + twl sHEX (σ.s.drop 2))).dict)) rfl ?_
        repeat' (first | with_reducible exact s0 | with_reducible exact s1 | with_reducible exact s2 | with_reducible exact h0 | with_reducible exact nF h0 | with_reducible exact nT h0 | with_reducible exact g_dig | with_reducible exact lw | exact dg | with_reducible exact am | with_reducible exact ha | with_reducible exact nF ha | with_reducible exact nT ha | with_reducible exact hx | with_reducible exact st | with_reducible exact st2 | with_reducible exact t | with_reducible exact nu | k_updF)
      | false =>
        refine e none (by unfold bnF lettersF; rw [h0, hx]; show (bif among (sgn σ.s 2) sHEX then _ else _) = _; rw [ha]; rfl) (.ret .none (H.set i σ.dict)) rfl ?_
        repeat' (first | with_reducible exact s0 | with_reducible exact s1 | with_reducible exact s2 | with_reducible exact h0 | with_reducible exact nF h0 | with_reducible exact nT h0 | with_reducible exact g_dig | with_reducible exact lw | exact dg | with_reducible exact am | with_reducible exact ha | with_reducible exact nF ha | with_reducible exact nT ha | with_reducible exact hx | with_reducible exact st | with_reducible exact st2 | with_reducible exact t | with_reducible exact nu | k_updF)
    | false =>
      cases ho : ((sgn σ.s 1).map lowerC == [111]) with
      | true =>
        have dg : dgetV (.dct [([120], .str sHEX), ([111], .str sOCT)]) (.str ((sgn σ.s 1).map lowerC)) = some (.str sOCT) := by rw [beq_iff_eq.mp ho]; rfl
        have am := c_among (W := W) (n := n + 2) (H := H.set i σ.dict) (ls := sOCT) (sgn_len σ.s 2)
        have t := k_taken (W := W) (n := n) hi ok hW sOCT 2
        have nu : FF W (n + 4) 12 [.str ((σ.s.drop 2).takeWhile sOCT.contains), .int 8] (H.set i (σ.adv (2 + twl sOCT (σ.s.drop 2))).dict) = _ := k_num (W := W) (n := n + 2) (H := H.set i (σ.adv (2 + twl sOCT (σ.s.drop 2))).dict) (ls := sOCT) (b := 8) oct_hex (len_drop ok 2) (by decide)
        cases ha : among (sgn σ.s 2) sOCT with
        | true =>
          refine e (some (numV 8 ((σ.s.drop 2).takeWhile sOCT.contains), 2 + twl sOCT (σ.s.drop 2))) (by unfold bnF lettersF; rw [h0, hx, ho]; show (bif among (sgn σ.s 2) sOCT then _ else _) = _; rw [ha]; rfl) (.ret (.int (numV 8 ((σ.s.drop 2).takeWhile sOCT.contains))) (H.set i (σ.adv (2 + twl sOCT (σ.s.drop 2))).dict)) rfl ?_
          repeat' (first | with_reducible exact s0 | with_reducible exact s1 | with_reducible exact s2 | with_reducible exact h0 | with_reducible exact nF h0 | with_reducible exact nT h0 | with_reducible exact g_dig | with_reducible exact lw | exact dg | with_reducible exact am | with_reducible exact ha | with_reducible exact nF ha | with_reducible exact nT ha | with_reducible exact hx | with_reducible exact st | with_reducible exact st2 | with_reducible exact t | with_reducible exact nu | k_updF)
        | false =>
          refine e none (by unfold bnF lettersF; rw [h0, hx, ho]; show (bif among (sgn σ.s 2) sOCT then _ else _) = _; rw [ha]; rfl) (.ret .none (H.set i σ.dict)) rfl ?_
          repeat' (first | with_reducible exact s0 | with_reducible exact s1 | with_reducible exact s2 | with_reducible exact h0 | with_reducible exact nF h0 | with_reducible exact nT h0 | with_reducible exact g_dig | with_reducible exact lw | exact dg | with_reducible exact am | with_reducible exact ha | with_reducible exact nF ha | with_reducible exact nT ha | with_reducible exact hx | with_reducible exact st | with_reducible exact st2 | with_reducible exact t | with_reducible exact nu | k_updF)
      | false =>
        have dg : dgetV (.dct [([120], .str sHEX), ([111], .str sOCT)]) (.str ((sgn σ.s 1).map lowerC)) = some .none := by
          have cx : ([120] == (sgn σ.s 1).map lowerC) = false := by rw [beq_eq_false_iff_ne] at hx ⊢; exact fun h => hx h.symm
          have co : ([111] == (sgn σ.s 1).map lowerC) = false := by rw [beq_eq_false_iff_ne] at ho ⊢; exact fun h => ho h.symm
          show some (((List.find? (fun p : List Nat × V => p.1 == (sgn σ.s 1).map lowerC) [([120], .str sHEX), ([111], .str sOCT)]).map (·.2)).getD .none) = _
          rw [List.find?_cons_of_neg (by rw [cx]; exact Bool.false_ne_true), List.find?_cons_of_neg (by rw [co]; exact Bool.false_ne_true)]; rfl
        refine e none (by unfold bnF lettersF; rw [h0, hx, ho]; rfl) (.ret .none (H.set i σ.dict)) rfl ?_
        repeat' (first | with_reducible exact s0 | with_reducible exact s1 | with_reducible exact h0 | with_reducible exact nF h0 | with_reducible exact nT h0 | with_reducible exact g_dig | with_reducible exact lw | exact dg | k_updF)
noncomputable def rnF (s : List Nat) : Nat × Nat := (bnF s).getD (numV 10 (s.takeWhile sDIG.contains), twl sDIG s)
theorem k_readnum (hi : i < H.length) (ok : σ.Ok) (hW : W = 1001) (h7 : (sgn σ.s 1).all (· < 128) = true) : FF W (n + 7) 14 [.inst 147 i] (H.set i σ.dict) = .ok (.int (rnF σ.s).1) (H.set i (σ.adv (rnF σ.s).2).dict) := by
  have e := k_based (W := W) (n := n + 1) hi ok hW h7
  have t := k_take (W := W) (n := n + 2) hi ok hW sDIG
  have nu : FF W (n + 6) 12 [.str (σ.s.takeWhile sDIG.contains), .int 10] (H.set i (σ.adv (twl sDIG σ.s)).dict) = _ := k_num (W := W) (n := n + 4) (H := H.set i (σ.adv (twl sDIG σ.s)).dict) (ls := sDIG) (b := 10) dig_hex (σ.len ok) (by decide)
  have q : ∀ x, fin x = .ok (.int (rnF σ.s).1) (H.set i (σ.adv (rnF σ.s).2).dict) → execSs (FF W (n + 6)) GV sg W p_read_numberB [some (.inst 147 i), none] (H.set i σ.dict) = x → FF W (n + 7) 14 [.inst 147 i] (H.set i σ.dict) = .ok (.int (rnF σ.s).1) (H.set i (σ.adv (rnF σ.s).2).dict) := fun x h1 h2 =>
    k_of (n := n + 5) (fn := p_read_number) (B := p_read_numberB) (m := [some (.inst 147 i), none]) rfl rfl rfl h2 h1
  cases hb : bnF σ.s with
  | none =>
    rw [hb] at e
    change _ = Rs.ok V.none (H.set i σ.dict) at e
    refine q (.ret (.int (numV 10 (σ.s.takeWhile sDIG.contains))) (H.set i (σ.adv (twl sDIG σ.s)).dict)) (by unfold rnF; rw [hb]; rfl) ?_
    repeat' (first | with_reducible exact e | with_reducible exact t | with_reducible exact nu | with_reducible exact g_dig | k_updF)
  | some x =>
    rw [hb] at e
    change _ = Rs.ok (V.int x.1) (H.set i (σ.adv x.2).dict) at e
    refine q (.ret (.int x.1) (H.set i (σ.adv x.2).dict)) (by unfold rnF; rw [hb]; rfl) ?_
    repeat' (first | with_reducible exact e | k_updF)
end
end
-- Q6
section
noncomputable def namesL : List (List Nat) := [[78, 85, 76], [83, 79, 72], [83, 84, 88], [69, 84, 88], [69, 79, 84], [69, 78, 81], [65, 67, 75], [66, 69, 76], [66, 83], [72, 84], [76, 70], [86, 84], [70, 70], [67, 82], [83, 79], [83, 73], [68, 76, 69], [68, 67, 49], [68, 67, 50], [68, 67, 51], [68, 67, 52], [78, 65, 75], [83, 89, 78], [69, 84, 66], [67, 65, 78], [69, 77], [83, 85, 66], [69, 83, 67], [70, 83], [71, 83], [82, 83], [85, 83], [83, 80]]
noncomputable def nstep (s : List Nat) (st : List Nat × Option Nat) (k : Nat) : List Nat × Option Nat :=
  bif s.take (namesL.getD k []).length == namesL.getD k [] && decide (((namesL.getD k []).length : Int) > (st.1.length : Int)) then (namesL.getD k [], some k) else st
noncomputable def nmV (o : Option Nat) : V := match o with
  | none => .none
  | some k => .int k
structure nOk (st : List Nat × Option Nat) : Prop where
  len : st.1.length ≤ 3
  num : ∀ k, st.2 = some k → k ≤ 127
theorem names_len (k : Nat) (h : k < 33) : (namesL.getD k []).length ≤ 3 := (show ∀ k, k < 33 → (namesL.getD k []).length ≤ 3 by decide +kernel) k h
theorem nstep_ok {s : List Nat} {st : List Nat × Option Nat} {k : Nat} (h : nOk st) (hk : k < 33) : nOk (nstep s st k) := by
  unfold nstep
  cases (s.take (namesL.getD k []).length == namesL.getD k [] && decide (((namesL.getD k []).length : Int) > (st.1.length : Int))) with
  | true => exact ⟨names_len k hk, fun x hx => by cases hx; omega⟩
  | false => exact h
theorem nfold_ok {s : List Nat} : ∀ (ks : List Nat) (st : List Nat × Option Nat), nOk st → (∀ k ∈ ks, k < 33) → nOk (ks.foldl (nstep s) st)
  | [], _, h, _ => h
  | k :: r, st, h, hk => nfold_ok r _ (nstep_ok h (hk k (List.mem_cons_self ..))) fun x hx => hk x (List.mem_cons_of_mem _ hx)
theorem g_names : GV 10 = some (.tup (namesL.map .str)) := rfl
theorem seqAt_nat {vs : List V} {k : Nat} (hb : vs.length ≤ big) : seqAt vs (k : Int) = vs[k]? := by unfold seqAt; rw [if_pos hb, if_pos (Int.natCast_nonneg _), Int.toNat_natCast]
theorem names_at {H : Hp} (k : Nat) (hk : k < 33) : idxV H (.tup (namesL.map .str)) (.int (k : Nat)) = some (.str (namesL.getD k [])) := by
  refine (seqAt_nat (show (namesL.map V.str).length ≤ big by decide +kernel)).trans ?_
  rw [List.getElem?_map, List.getD_eq_getElem?_getD, List.getElem?_eq_getElem (show k < namesL.length from hk)]; rfl
section
variable {W n i : Nat} {H : Hp} {σ : Sg}
theorem name_body (hi : i < H.length) (ok : σ.Ok) {st : List Nat × Option Nat} (h : nOk st) {k : Nat} (hk : k < 33) {tn : Option V} :
    execSs (FF W (n + 2)) GV sg W p_named_escape_L1 [some (.inst 147 i), some (.str st.1), some (nmV st.2), some (.int k), tn] (H.set i σ.dict) =
      .next [some (.inst 147 i), some (.str (nstep σ.s st k).1), some (nmV (nstep σ.s st k).2), some (.int k), tn] (H.set i σ.dict) := by
  have l3 := names_len k hk
  have sw := k_starts (W := W) (n := n) hi ok (namesL.getD k []) (by omega)
  have l1 : (namesL.getD k []).length ≤ big := Nat.le_trans l3 (by decide)
  have l2 : st.1.length ≤ big := Nat.le_trans h.len (by decide)
  have na := names_at (H := H.set i σ.dict) k hk
  unfold nstep
  generalize namesL.getD k [] = nm at *
  cases hs : (σ.s.take nm.length == nm) with
  | false =>
    rw [hs] at sw
    repeat' (first | with_reducible exact g_names | with_reducible exact na | with_reducible exact sw | with_reducible exact l1 | with_reducible exact l2 | k_updF)
  | true =>
    rw [hs] at sw
    cases hl : decide ((nm.length : Int) > (st.1.length : Int)) with
    | true => repeat' (first | with_reducible exact g_names | with_reducible exact na | with_reducible exact sw | with_reducible exact l1 | with_reducible exact l2 | with_reducible exact hl | k_updF)
    | false => repeat' (first | with_reducible exact g_names | with_reducible exact na | with_reducible exact sw | with_reducible exact l1 | with_reducible exact l2 | with_reducible exact hl | k_updF)
theorem name_loop2 (hi : i < H.length) (ok : σ.Ok) {tn : Option V} : ∀ (ks : List Nat) (st : List Nat × Option Nat) (at' : Option V), nOk st → (∀ k ∈ ks, k < 33) → ∃ at'',
    loopF (fun m v => some (setL m 3 v)) (fun m H => execSs (FF W (n + 2)) GV sg W p_named_escape_L1 m H) (ks.map fun (k : Nat) => V.int k) [some (.inst 147 i), some (.str st.1), some (nmV st.2), at', tn] (H.set i σ.dict) =
      .next [some (.inst 147 i), some (.str (ks.foldl (nstep σ.s) st).1), some (nmV (ks.foldl (nstep σ.s) st).2), at'', tn] (H.set i σ.dict)
  | [], st, at', _, _ => ⟨at', rfl⟩
  | k :: r, st, at', h, hk => by
    obtain ⟨a2, e⟩ := name_loop2 hi ok r (nstep σ.s st k) (some (.int k)) (nstep_ok h (hk k (List.mem_cons_self ..))) fun x hx => hk x (List.mem_cons_of_mem _ hx)
    exact ⟨a2, lf_cons rfl (name_body hi ok h (hk k (List.mem_cons_self ..))) e⟩
theorem turn_loop (hi : i < H.length) {b c d : Option V} : ∀ (ks : List Nat) (σ : Sg) (tn : Option V), σ.Ok → ∃ tn',
    loopF (fun m v => some (setL m 4 v)) (fun m H => execSs (FF W (n + 3)) GV sg W p_named_escape_L2 m H) (ks.map fun (k : Nat) => V.int k) [some (.inst 147 i), b, c, d, tn] (H.set i σ.dict) =
      .next [some (.inst 147 i), b, c, d, tn'] (H.set i (σ.adv ks.length).dict)
  | [], σ, tn, _ => ⟨tn, rfl⟩
  | k :: r, σ, tn, ok => by
    obtain ⟨a2, e⟩ := turn_loop hi (b := b) (c := c) (d := d) r σ.stp (some (.int k)) ok.stp
    have st := k_step (W := W) (n := n) hi ok
    have hb : execSs (FF W (n + 3)) GV sg W p_named_escape_L2 [some (.inst 147 i), b, c, d, some (.int k)] (H.set i σ.dict) = .next [some (.inst 147 i), b, c, d, some (.int k)] (H.set i σ.stp.dict) := by
      repeat' (first | with_reducible exact st | k_updF)
    exact ⟨a2, lf_cons rfl hb e⟩
noncomputable def sDEL : List Nat := [68, 69, 76]
noncomputable def neF (s : List Nat) : List Nat × Option Nat := bif s.take 3 == sDEL then (sDEL, some 127) else (List.range 33).foldl (nstep s) ([], none)
theorem neF_ok (s : List Nat) : nOk (neF s) := by
  unfold neF
  cases (s.take 3 == sDEL) with
  | true => exact ⟨Nat.le_refl 3, fun k h => by cases h; omega⟩
  | false => exact nfold_ok _ _ ⟨by decide, fun k h => by cases h⟩ fun k h => List.mem_range.mp h
noncomputable def nmS (o : Option Nat) : V := match o with
  | none => .none
  | some k => .str [k]
theorem k_named (hi : i < H.length) (ok : σ.Ok) : FF W (n + 4) 16 [.inst 147 i] (H.set i σ.dict) = .ok (nmS (neF σ.s).2) (H.set i (σ.adv (neF σ.s).1.length).dict) := by
  obtain ⟨at', e1⟩ := name_loop2 (W := W) (n := n + 1) hi ok (tn := none) (List.range 33) ([], none) none ⟨by decide, fun k h => by cases h⟩ fun k h => List.mem_range.mp h
  have sw : FF W (n + 3) 3 [.inst 147 i, .str [68, 69, 76]] (H.set i σ.dict) = .ok (.bool (σ.s.take 3 == sDEL)) (H.set i σ.dict) := k_starts (W := W) (n := n + 1) hi ok sDEL (by decide)
  have kn := neF_ok σ.s
  have b33 : (namesL.map V.str).length ≤ big := by decide +kernel
  have i33 : (0 : Int) ≤ (((namesL.map V.str).length : Nat) : Int) ∧ (((namesL.map V.str).length : Nat) : Int) ≤ big := ⟨Int.natCast_nonneg _, Int.ofNat_le.mpr b33⟩
  have hd : GV 11 = some (.int 127) := rfl
  have lb : (neF σ.s).1.length ≤ big := Nat.le_trans kn.len (by decide)
  have ilb : (0 : Int) ≤ ((neF σ.s).1.length : Int) ∧ ((neF σ.s).1.length : Int) ≤ big := ⟨Int.natCast_nonneg _, Int.ofNat_le.mpr lb⟩
  cases hs : (σ.s.take 3 == sDEL) with
  | false =>
    have fol : (List.range 33).foldl (nstep σ.s) ([], none) = neF σ.s := by unfold neF; rw [hs]; rfl
    rw [hs] at sw
    rw [fol] at e1
    obtain ⟨tn', e2⟩ := turn_loop (W := W) (n := n) hi (b := some (.str (neF σ.s).1)) (c := some (nmV (neF σ.s).2)) (d := at') (List.range (neF σ.s).1.length) σ none ok
    rw [List.length_range] at e2
    cases hk : (neF σ.s).2 with
    | none =>
      rw [hk] at e1 e2
      refine k_of (n := n + 2) (fn := p_named_escape) (B := p_named_escapeB) (m := [some (.inst 147 i), none, none, none, none]) rfl rfl rfl (x := .ret .none (H.set i (σ.adv (neF σ.s).1.length).dict)) ?_ rfl
      repeat' (first | with_reducible exact g_names | with_reducible exact b33 | with_reducible exact i33 | exact e1 | with_reducible exact sw | with_reducible exact lb | with_reducible exact ilb | exact e2 | k_updF)
    | some k =>
      rw [hk] at e1 e2
      have ck : chrV (nmV (some k)) = some (.str [k]) := (if_pos ⟨Int.natCast_nonneg _, by have := kn.num k hk; omega⟩).trans (by rw [Int.toNat_natCast])
      refine k_of (n := n + 2) (fn := p_named_escape) (B := p_named_escapeB) (m := [some (.inst 147 i), none, none, none, none]) rfl rfl rfl (x := .ret (.str [k]) (H.set i (σ.adv (neF σ.s).1.length).dict)) ?_ rfl
      repeat' (first | with_reducible exact g_names | with_reducible exact b33 | with_reducible exact i33 | exact e1 | with_reducible exact sw | with_reducible exact lb | with_reducible exact ilb | exact e2 | with_reducible exact ck | k_updF)
  | true =>
    have fol : neF σ.s = (sDEL, some 127) := by unfold neF; rw [hs]; rfl
    rw [hs] at sw
    rw [fol]
    obtain ⟨tn', e2⟩ := turn_loop (W := W) (n := n) hi (b := some (.str sDEL)) (c := some (.int 127)) (d := at') (List.range 3) σ none ok
    refine k_of (n := n + 2) (fn := p_named_escape) (B := p_named_escapeB) (m := [some (.inst 147 i), none, none, none, none]) rfl rfl rfl (x := .ret (.str [127]) (H.set i (σ.adv 3).dict)) ?_ rfl
    repeat' (first | with_reducible exact g_names | with_reducible exact b33 | with_reducible exact i33 | exact e1 | with_reducible exact sw | with_reducible exact hd | exact e2 | k_updF)
end
end
-- Q7
section
noncomputable def plainL : List (List Nat × Nat) := [([97], 7), ([98], 8), ([102], 12), ([110], 10), ([114], 13), ([116], 9), ([118], 11), ([92], 92), ([34], 34), ([39], 39)]
noncomputable def plainE (x : List Nat) : Option Nat := (plainL.find? fun p => p.1 == x).map (·.2)
theorem plain_get (x : List Nat) : kvGet (plainL.map fun p => (p.1, V.int p.2)) x = (plainE x).map fun (v : Nat) => V.int v := by
  unfold kvGet plainE
  rw [List.find?_map, Option.map_map, Option.map_map]
  rfl
theorem plain_in {H : Hp} (x : List Nat) : cmpV H .isin (.str x) g_PLAIN_ESCAPES = some (plainE x).isSome := by
  show some (kvGet (plainL.map fun p => (p.1, V.int p.2)) x).isSome = _
  rw [plain_get, Option.isSome_map]
theorem plain_idx {H : Hp} {x : List Nat} {v : Nat} (h : plainE x = some v) : idxV H g_PLAIN_ESCAPES (.str x) = some (.int v) := (plain_get x).trans (by rw [h]; rfl)
theorem plain_le {x : List Nat} {v : Nat} (h : plainE x = some v) : v ≤ 127 := by
  unfold plainE at h
  cases hf : plainL.find? (fun p => p.1 == x) with
  | none => rw [hf] at h; cases h
  | some p =>
    rw [hf] at h; cases h
    exact (show ∀ p ∈ plainL, p.2 ≤ 127 by decide +kernel) p (List.mem_of_find?_eq_some hf)
noncomputable def chkF (v k : Nat) : LX := bif Nat.ble v 1114111 then .ok (.str [v]) k else .err 0 k
noncomputable def reF (s : List Nat) : LX :=
  bif among (sgn s 0) sDIG then chkF (numV 10 (s.takeWhile sDIG.contains)) (twl sDIG s)
  else bif sgn s 0 == [120] && among (sgn s 1) sHEX then chkF (numV 16 ((s.drop 1).takeWhile sHEX.contains)) (1 + twl sHEX (s.drop 1))
  else bif sgn s 0 == [111] && among (sgn s 1) sOCT then chkF (numV 8 ((s.drop 1).takeWhile sOCT.contains)) (1 + twl sOCT (s.drop 1))
  else bif sgn s 0 == [94] && (strLe [64] (sgn s 1) && strLe (sgn s 1) [95]) then .ok (.str [(sgn s 1).headD 0 - 64]) 2
  else match plainE (sgn s 0) with
    | some v => .ok (.str [v]) 1
    | none => match (neF s).2 with
      | some k => .ok (.str [k]) (neF s).1.length
      | none => .err 0 (neF s).1.length
noncomputable def LX.z (H : Hp) (i : Nat) (σ : Sg) (r : LX) : Z := match r with
  | .ok v n => .ret v (H.set i (σ.adv n).dict)
  | .err d e => .exc (σ.adv d).plc (H.set i (σ.adv e).dict)
theorem LX.fin_z (H : Hp) (i : Nat) (σ : Sg) (r : LX) : fin (r.z H i σ) = r.run H i σ := by cases r <;> rfl
theorem LX.run_q {H : Hp} {i : Nat} {σ : Sg} {r : LX} : (r.run H i σ).q (fun v H1 => Z.ret v H1) = r.z H i σ := by cases r <;> rfl
theorem LX.z_then {H : Hp} {i : Nat} {σ : Sg} {r : LX} {K : Loc → Hp → Z} : (r.z H i σ).then K = r.z H i σ := by cases r <;> rfl
section
variable {W n i : Nat} {H : Hp} {σ : Sg}
theorem k_checked {v k : Nat} {H : Hp} {i : Nat} {σ : Sg} : FF W (n + 2) 15 [.int v, σ.plc] (H.set i (σ.adv k).dict) = (chkF v k).run H i σ := by
  refine c_checked.trans ?_
  unfold chkF
  cases h : Nat.ble v 1114111 with
  | true => rw [if_pos (Nat.le_of_ble_eq_true h)]; rfl
  | false => rw [if_neg (fun q => by rw [Nat.ble_eq_true_of_le q] at h; cases h)]; rfl
theorem esc_body (hi : i < H.length) (ok : σ.Ok) (hW : W = 1001) {L : Nat} {ls : List Nat} {b : Nat} (hl : ∀ c ∈ ls, c ∈ sHEX) (hb : b ≤ 100) {o : Option V} :
    execSs (FF W (n + 5)) GV sg W p_read_escape_L1 [some (.inst 147 i), some σ.plc, some (.str (sgn σ.s 0)), some (.str [L]), some (.str ls), some (.int b), o] (H.set i σ.dict) =
    bif sgn σ.s 0 == [L] && among (sgn σ.s 1) ls then (chkF (numV b ((σ.s.drop 1).takeWhile ls.contains)) (1 + twl ls (σ.s.drop 1))).z H i σ
    else .next [some (.inst 147 i), some σ.plc, some (.str (sgn σ.s 0)), some (.str [L]), some (.str ls), some (.int b), o] (H.set i σ.dict) := by
  have s1 := k_sign1 (W := W) (n := n + 3) hi ok
  have a1 := c_among (W := W) (n := n + 3) (H := H.set i σ.dict) (ls := ls) (sgn_len σ.s 1)
  cases hL : (sgn σ.s 0 == [L]) with
  | false =>
    show _ = Z.next _ _
    repeat' (first | with_reducible exact hL | k_updF)
  | true =>
    cases ha : among (sgn σ.s 1) ls with
    | false =>
      show _ = Z.next _ _
      repeat' (first | with_reducible exact hL | with_reducible exact s1 | with_reducible exact a1 | with_reducible exact ha | k_updF)
    | true =>
      have st := k_step1 (W := W) (n := n + 2) hi ok
      have t := k_taken (W := W) (n := n + 1) hi ok hW ls 1
      have nu := k_num (W := W) (n := n + 3) (H := H.set i (σ.adv (1 + twl ls (σ.s.drop 1))).dict) (ls := ls) (b := b) hl (len_drop ok 1) hb
      have ck := k_checked (W := W) (n := n + 3) (H := H) (i := i) (σ := σ) (v := numV b ((σ.s.drop 1).takeWhile ls.contains)) (k := 1 + twl ls (σ.s.drop 1))
      show _ = LX.z _ _ _ _
      repeat' (first | with_reducible exact hL | with_reducible exact s1 | with_reducible exact a1 | with_reducible exact ha | with_reducible exact st | with_reducible exact t | with_reducible exact nu | with_reducible exact ck | with_reducible exact LX.run_q | with_reducible exact LX.z_then | k_updF)
theorem strLe_one {a d : Nat} (h : strLe [a] [d] = true) : a ≤ d := by
  unfold strLe at h
  split at h
  · omega
  · split at h
    · cases h
    · omega
theorem k_escape (hi : i < H.length) (ok : σ.Ok) (hW : W = 1001) : FF W (n + 6) 17 [.inst 147 i] (H.set i σ.dict) = (reF σ.s).run H i σ := by
  have s0 := k_sign0 (W := W) (n := n + 3) hi ok
  have s1 := k_sign1 (W := W) (n := n + 3) hi ok
  have pl := k_place (W := W) (n := n + 3) (σ := σ) hi
  have a0 := c_among (W := W) (n := n + 3) (H := H.set i σ.dict) (ls := sDIG) (sgn_len σ.s 0)
  have ex := esc_body (W := W) (n := n) hi ok hW (L := 120) (ls := sHEX) (b := 16) (fun _ h => h) (by decide) (o := none)
  have eo := esc_body (W := W) (n := n) hi ok hW (L := 111) (ls := sOCT) (b := 8) oct_hex (by decide) (o := none)
  rw [show ((16 : Nat) : Int) = 16 from rfl] at ex
  rw [show ((8 : Nat) : Int) = 8 from rfl] at eo
  have g9 : GV 9 = some g_PLAIN_ESCAPES := rfl
  have q : ∀ z, reF σ.s = z → execSs (FF W (n + 5)) GV sg W p_read_escapeB [some (.inst 147 i), none, none, none, none, none, none] (H.set i σ.dict) = z.z H i σ → FF W (n + 6) 17 [.inst 147 i] (H.set i σ.dict) = (reF σ.s).run H i σ := fun z h h2 =>
    k_of (n := n + 4) (fn := p_read_escape) (B := p_read_escapeB) (m := [some (.inst 147 i), none, none, none, none, none, none]) rfl rfl rfl h2 (by rw [h]; exact LX.fin_z _ _ _ _)
  cases hd : among (sgn σ.s 0) sDIG with
  | true =>
    have t10 := k_take (W := W) (n := n + 1) hi ok hW sDIG
    have n10 : FF W (n + 5) 12 [.str (σ.s.takeWhile sDIG.contains), .int 10] (H.set i (σ.adv (twl sDIG σ.s)).dict) = _ := k_num (W := W) (n := n + 3) (H := H.set i (σ.adv (twl sDIG σ.s)).dict) (ls := sDIG) (b := 10) dig_hex (σ.len ok) (by decide)
    have c10 := k_checked (W := W) (n := n + 3) (H := H) (i := i) (σ := σ) (v := numV 10 (σ.s.takeWhile sDIG.contains)) (k := twl sDIG σ.s)
    refine q (chkF (numV 10 (σ.s.takeWhile sDIG.contains)) (twl sDIG σ.s)) (by unfold reF; rw [hd]; rfl) ?_
    repeat' (first | with_reducible exact pl | with_reducible exact s0 | with_reducible exact a0 | with_reducible exact hd | with_reducible exact g_dig | with_reducible exact t10 | with_reducible exact n10 | with_reducible exact c10 | with_reducible exact LX.run_q | with_reducible exact LX.z_then | k_updF)
  | false =>
    cases hx : (sgn σ.s 0 == [120] && among (sgn σ.s 1) sHEX) with
    | true =>
      rw [hx, cond_true] at ex
      refine q (chkF (numV 16 ((σ.s.drop 1).takeWhile sHEX.contains)) (1 + twl sHEX (σ.s.drop 1))) (by unfold reF; rw [hd, hx]; rfl) ?_
      repeat' (first | with_reducible exact pl | with_reducible exact s0 | with_reducible exact a0 | with_reducible exact hd | with_reducible exact g_dig | exact ex | with_reducible exact LX.z_then | k_updF)
    | false =>
      rw [hx, cond_false] at ex
      cases ho : (sgn σ.s 0 == [111] && among (sgn σ.s 1) sOCT) with
      | true =>
        rw [ho, cond_true] at eo
        refine q (chkF (numV 8 ((σ.s.drop 1).takeWhile sOCT.contains)) (1 + twl sOCT (σ.s.drop 1))) (by unfold reF; rw [hd, hx, ho]; rfl) ?_
        repeat' (first | with_reducible exact pl | with_reducible exact s0 | with_reducible exact a0 | with_reducible exact hd | with_reducible exact g_dig | exact ex | exact eo | with_reducible exact LX.z_then | k_updF)
      | false =>
        rw [ho, cond_false] at eo
        cases hq : (sgn σ.s 0 == [94] && (strLe [64] (sgn σ.s 1) && strLe (sgn σ.s 1) [95])) with
        | true =>
          have hq2 := Bool.and_eq_true_iff.mp hq
          have hq3 := Bool.and_eq_true_iff.mp hq2.2
          have hc := hq2.1
          obtain ⟨d, hd1⟩ : ∃ d, sgn σ.s 1 = [d] := by
            have h1 := hq3.1
            match hz : sgn σ.s 1, sgn_len σ.s 1 with
            | [], _ => rw [hz] at h1; cases h1
            | [d], _ => exact ⟨d, rfl⟩
          have st := k_step1 (W := W) (n := n + 2) hi ok
          have st2 := k_stepn (W := W) (n := n + 2) hi ok 1
          have h1 := hq3.1
          have h2 := hq3.2
          rw [hd1] at h1 h2 s1 st2
          have d1 := strLe_one h1
          have d2 := strLe_one h2
          have d3 : chrV (.int ((d : Int) - 64)) = some (.str [d - 64]) := (if_pos ⟨by omega, by omega⟩).trans (by rw [show ((d : Int) - 64).toNat = d - 64 by omega])
          refine q (.ok (.str [d - 64]) 2) (by unfold reF; rw [hd, hx, ho, hq, hd1]; rfl) ?_
          repeat' (first | with_reducible exact pl | with_reducible exact s0 | with_reducible exact a0 | with_reducible exact hd | with_reducible exact g_dig | exact ex | exact eo | with_reducible exact hc | with_reducible exact s1 | exact (r_cmp2T r_lits (r_sg loc0 hi rfl (r_cons r_liti r_nil) s1) (congrArg some h1) r_lits (congrArg some h2)) | with_reducible exact st | with_reducible exact st2 | with_reducible exact d3 | k_updF)
        | false =>
          have pin := plain_in (H := H.set i σ.dict) (sgn σ.s 0)
          have rest : ∀ r, reF σ.s = r → (∀ A, execSs (FF W (n + 5)) GV sg W (.cons (.ife (.band (.cmp .eq (.loc 2) (.lit (.str [94]))) (.cmp2 .le .le (.lit (.str [64])) (.meth (.loc 0) 2 (.cons (.lit (.int 1)) .nil)) (.lit (.str [95]))))
    (.cons (.expr (.meth (.loc 0) 4 .nil))
    (.cons (.ret (.chr (.bin .sub (.ord (.meth (.loc 0) 4 .nil)) (.lit (.int 64)))))
    .nil))
    .nil) A) [some (.inst 147 i), some σ.plc, some (.str (sgn σ.s 0)), some (.str [111]), some (.str sOCT), some (.int 8), none] (H.set i σ.dict) = execSs (FF W (n + 5)) GV sg W A [some (.inst 147 i), some σ.plc, some (.str (sgn σ.s 0)), some (.str [111]), some (.str sOCT), some (.int 8), none] (H.set i σ.dict)) := by
            intro r _ A
            cases hc : (sgn σ.s 0 == [94]) with
            | false => repeat' (first | with_reducible exact hc | with_reducible exact (Eq.refl (execSs (FF W (n + 5)) GV sg W A _ _)) | k_updF)
            | true =>
              rw [hc, Bool.true_and] at hq
              cases h1 : strLe [64] (sgn σ.s 1) with
              | false => repeat' (first | with_reducible exact hc | exact (r_cmp2F r_lits (r_sg loc0 hi rfl (r_cons r_liti r_nil) s1) (congrArg some h1)) | with_reducible exact (Eq.refl (execSs (FF W (n + 5)) GV sg W A _ _)) | k_updF)
              | true =>
                rw [h1, Bool.true_and] at hq
                repeat' (first | with_reducible exact hc | exact (r_cmp2T r_lits (r_sg loc0 hi rfl (r_cons r_liti r_nil) s1) (congrArg some h1) r_lits (congrArg some hq)) | with_reducible exact (Eq.refl (execSs (FF W (n + 5)) GV sg W A _ _)) | k_updF)
          cases hpl : plainE (sgn σ.s 0) with
          | some v =>
            have hne : (sgn σ.s 0 == []) = false := by
              cases hs : sgn σ.s 0 with
              | nil => rw [hs] at hpl; cases hpl
              | cons a b => rfl
            rw [hpl] at pin
            have ck : chrV (.int v) = some (.str [v]) := (if_pos ⟨Int.natCast_nonneg _, by have := plain_le hpl; omega⟩).trans (by rw [Int.toNat_natCast])
            have st := k_step1 (W := W) (n := n + 2) hi ok
            have e : reF σ.s = .ok (.str [v]) 1 := by unfold reF; rw [hd, hx, ho, hq, hpl]; rfl
            refine q _ e ?_
            repeat' (first | with_reducible exact pl | with_reducible exact s0 | with_reducible exact a0 | with_reducible exact hd | with_reducible exact g_dig | exact ex | exact eo | with_reducible refine ((rest _ e _).trans ?_) | with_reducible exact hne | with_reducible exact nF hne | with_reducible exact nT hne | with_reducible exact g9 | with_reducible exact pin | with_reducible exact st | with_reducible exact (plain_idx hpl) | with_reducible exact ck | k_updF)
          | none =>
            rw [hpl] at pin
            have nm := k_named (W := W) (n := n + 1) hi ok
            cases hn : (neF σ.s).2 with
            | none =>
              rw [hn] at nm
              have e : reF σ.s = .err 0 (neF σ.s).1.length := by unfold reF; rw [hd, hx, ho, hq, hpl, hn]; rfl
              refine q _ e ?_
              cases hne : (sgn σ.s 0 == []) with
              | true => repeat' (first | with_reducible exact pl | with_reducible exact s0 | with_reducible exact a0 | with_reducible exact hd | with_reducible exact g_dig | exact ex | exact eo | with_reducible refine ((rest _ e _).trans ?_) | with_reducible exact hne | with_reducible exact nF hne | with_reducible exact nT hne | with_reducible exact g9 | with_reducible exact pin | with_reducible exact nm | k_updF)
              | false => repeat' (first | with_reducible exact pl | with_reducible exact s0 | with_reducible exact a0 | with_reducible exact hd | with_reducible exact g_dig | exact ex | exact eo | with_reducible refine ((rest _ e _).trans ?_) | with_reducible exact hne | with_reducible exact nF hne | with_reducible exact nT hne | with_reducible exact g9 | with_reducible exact pin | with_reducible exact nm | k_updF)
            | some k =>
              rw [hn] at nm
              have e : reF σ.s = .ok (.str [k]) (neF σ.s).1.length := by unfold reF; rw [hd, hx, ho, hq, hpl, hn]; rfl
              refine q _ e ?_
              cases hne : (sgn σ.s 0 == []) with
              | true => repeat' (first | with_reducible exact pl | with_reducible exact s0 | with_reducible exact a0 | with_reducible exact hd | with_reducible exact g_dig | exact ex | exact eo | with_reducible refine ((rest _ e _).trans ?_) | with_reducible exact hne | with_reducible exact nF hne | with_reducible exact nT hne | with_reducible exact g9 | with_reducible exact pin | with_reducible exact nm | k_updF)
              | false => repeat' (first | with_reducible exact pl | with_reducible exact s0 | with_reducible exact a0 | with_reducible exact hd | with_reducible exact g_dig | exact ex | exact eo | with_reducible refine ((rest _ e _).trans ?_) | with_reducible exact hne | with_reducible exact nF hne | with_reducible exact nT hne | with_reducible exact g9 | with_reducible exact pin | with_reducible exact nm | k_updF)
end
end
-- Q8
section
noncomputable def rcF (s : List Nat) : LX :=
  bif sgn s 1 == [] || (sgn s 1 == [10] || sgn s 1 == [39]) then .err 0 2
  else bif sgn s 1 == [92] then match reF (s.drop 2) with
    | .err d e => .err (2 + d) (2 + e)
    | .ok v n => bif sgn s (2 + n) == [39] then .ok v (2 + n + 1) else .err 0 (2 + n + 1)
  else bif sgn s 2 == [39] then .ok (.str (sgn s 1)) 3 else .err 0 3
theorem cEq (H : Hp) (x y : List Nat) : cmpV H .eq (.str x) (.str y) = some (x == y) := rfl
theorem beq_comm' (x y : List Nat) : (x == y) = (y == x) := by
  cases h : (y == x) with
  | true => rw [beq_iff_eq.mp h]; exact beq_iff_eq.mpr rfl
  | false => rw [beq_eq_false_iff_ne] at h ⊢; exact fun e => h e.symm
theorem has2 (x a b : List Nat) : ([a, b] : List (List Nat)).contains x = (x == a || x == b) := by
  show (x == a || (x == b || false)) = _
  rw [Bool.or_false]
theorem cIn2 (H : Hp) (x : List Nat) : cmpV H .isin (.str x) (.tup [.str [], .str [10]]) = some (x == [] || x == [10]) := congrArg some (has2 x [] [10])
theorem cNin2 (H : Hp) (x : List Nat) : cmpV H .notin (.str x) (.tup [.str [], .str [10]]) = some (!(x == [] || x == [10])) := congrArg (fun b => some (!b)) (has2 x [] [10])
theorem cIn3 (H : Hp) (x : List Nat) : cmpV H .isin (.str x) (.tup [.str [], .str [10], .str [39]]) = some (x == [] || (x == [10] || x == [39])) := congrArg (fun b => some (x == [] || b)) (has2 x [10] [39])
section
variable {W n i : Nat} {H : Hp} {σ : Sg}
theorem k_escn (hi : i < H.length) (ok : σ.Ok) (hW : W = 1001) (k : Nat) : FF W (n + 6) 17 [.inst 147 i] (H.set i (σ.adv k).dict) = ((reF (σ.s.drop k)).shift k).run H i σ := by
  rw [k_escape hi (ok.adv k) hW, LX.run_shift, Sg.adv_s]
theorem k_char (hi : i < H.length) (ok : σ.Ok) (hW : W = 1001) : FF W (n + 8) 18 [.inst 147 i] (H.set i σ.dict) = (rcF σ.s).run H i σ := by
  have pl := k_place (W := W) (n := n + 5) (σ := σ) hi
  have a0 := k_step1 (W := W) (n := n + 4) hi ok
  have a1 := k_stepn (W := W) (n := n + 4) hi ok 1
  have a2 := k_stepn (W := W) (n := n + 4) hi ok 2
  have es := k_escn (W := W) (n := n + 1) hi ok hW 2
  have q : ∀ r, rcF σ.s = r → execSs (FF W (n + 7)) GV sg W p_read_charB [some (.inst 147 i), none, none] (H.set i σ.dict) = r.z H i σ → FF W (n + 8) 18 [.inst 147 i] (H.set i σ.dict) = (rcF σ.s).run H i σ := fun r h h2 =>
    k_of (n := n + 6) (fn := p_read_char) (B := p_read_charB) (m := [some (.inst 147 i), none, none]) rfl rfl rfl h2 (by rw [h]; exact LX.fin_z _ _ _ _)
  cases hx : (sgn σ.s 1 == [] || (sgn σ.s 1 == [10] || sgn σ.s 1 == [39])) with
  | true =>
    refine q (.err 0 2) (by unfold rcF; rw [hx]; rfl) ?_
    repeat' (first | with_reducible exact pl | with_reducible exact a0 | with_reducible exact a1 | with_reducible exact (cIn3 _ _) | with_reducible exact hx | k_updF)
  | false =>
    cases hb : (sgn σ.s 1 == [92]) with
    | true =>
      cases hr : reF (σ.s.drop 2) with
      | err d e =>
        rw [hr] at es
        change _ = Rs.exc (σ.adv (2 + d)).plc (H.set i (σ.adv (2 + e)).dict) at es
        refine q (.err (2 + d) (2 + e)) (by unfold rcF; rw [hx, hb, hr]; rfl) ?_
        repeat' (first | with_reducible exact pl | with_reducible exact a0 | with_reducible exact a1 | with_reducible exact (cIn3 _ _) | with_reducible exact hx | with_reducible exact hb | with_reducible exact es | k_updF)
      | ok v n2 =>
        rw [hr] at es
        change _ = Rs.ok v (H.set i (σ.adv (2 + n2)).dict) at es
        have a3 := k_stepn (W := W) (n := n + 4) hi ok (2 + n2)
        cases hq : (sgn σ.s (2 + n2) == [39]) with
        | true =>
          refine q (.ok v (2 + n2 + 1)) (by unfold rcF; rw [hx, hb, hr]; show (bif sgn σ.s (2 + n2) == [39] then _ else _) = _; rw [hq]; rfl) ?_
          repeat' (first | with_reducible exact pl | with_reducible exact a0 | with_reducible exact a1 | with_reducible exact (cIn3 _ _) | with_reducible exact hx | with_reducible exact hb | with_reducible exact es | with_reducible exact a3 | with_reducible exact hq | with_reducible exact nF hq | with_reducible exact nT hq | k_updF)
        | false =>
          refine q (.err 0 (2 + n2 + 1)) (by unfold rcF; rw [hx, hb, hr]; show (bif sgn σ.s (2 + n2) == [39] then _ else _) = _; rw [hq]; rfl) ?_
          repeat' (first | with_reducible exact pl | with_reducible exact a0 | with_reducible exact a1 | with_reducible exact (cIn3 _ _) | with_reducible exact hx | with_reducible exact hb | with_reducible exact es | with_reducible exact a3 | with_reducible exact hq | with_reducible exact nF hq | with_reducible exact nT hq | k_updF)
    | false =>
      cases hq : (sgn σ.s 2 == [39]) with
      | true =>
        refine q (.ok (.str (sgn σ.s 1)) 3) (by unfold rcF; rw [hx, hb, hq]; rfl) ?_
        repeat' (first | with_reducible exact pl | with_reducible exact a0 | with_reducible exact a1 | with_reducible exact (cIn3 _ _) | with_reducible exact hx | with_reducible exact hb | with_reducible exact a2 | with_reducible exact hq | with_reducible exact nF hq | with_reducible exact nT hq | k_updF)
      | false =>
        refine q (.err 0 3) (by unfold rcF; rw [hx, hb, hq]; rfl) ?_
        repeat' (first | with_reducible exact pl | with_reducible exact a0 | with_reducible exact a1 | with_reducible exact (cIn3 _ _) | with_reducible exact hx | with_reducible exact hb | with_reducible exact a2 | with_reducible exact hq | with_reducible exact nF hq | with_reducible exact nT hq | k_updF)
end
/-- the inner part of a text: pieces and how many signs; or a failure -/
inductive RT where
  | ok (acc : List (List Nat)) (n : Nat)
  | err (d e : Nat)
noncomputable def strV (v : V) : Option (List Nat) := match v with
  | .str x => some x
  | _ => none
noncomputable def rtL : Nat → List Nat → List (List Nat) → Nat → Option RT
  | 0, _, _, _ => none
  | f + 1, s, acc, k =>
    bif sgn s 0 == [34] then some (.ok acc k)
    else bif sgn s 0 == [] || sgn s 0 == [10] then some (.err 0 (k + 1))
    else bif sgn s 0 == [92] then
      bif sgn s 1 == [38] then rtL f (s.drop 2) acc (k + 2)
      else bif among (sgn s 1) sBL then
        bif sgn (s.drop 1) (twl sBL (s.drop 1)) == [92] then rtL f (s.drop (1 + (twl sBL (s.drop 1) + 1))) acc (k + (1 + (twl sBL (s.drop 1) + 1))) else some (.err 0 (k + (1 + (twl sBL (s.drop 1) + 1))))
      else match reF (s.drop 1) with
        | .err d e => some (.err (k + (1 + d)) (k + (1 + e)))
        | .ok v n => (strV v).bind fun x => rtL f (s.drop (1 + n)) (acc ++ [x]) (k + (1 + n))
    else rtL f (s.drop 1) (acc ++ [sgn s 0]) (k + 1)
end
-- Q9
section
theorem reF_len {s x : List Nat} {m : Nat} (h : reF s = .ok (.str x) m) : x.length ≤ 1 := by
  have ck : ∀ v k, chkF v k = .ok (.str x) m → x.length ≤ 1 := fun v k h => by
    unfold chkF at h
    cases hb : Nat.ble v 1114111 with
    | true => rw [hb] at h; cases h; exact Nat.le_refl 1
    | false => rw [hb] at h; cases h
  unfold reF at h
  cases h1 : among (sgn s 0) sDIG with
  | true => rw [h1] at h; exact ck _ _ h
  | false =>
    rw [h1] at h
    cases h2 : (sgn s 0 == [120] && among (sgn s 1) sHEX) with
    | true => rw [h2] at h; exact ck _ _ h
    | false =>
      rw [h2] at h
      cases h3 : (sgn s 0 == [111] && among (sgn s 1) sOCT) with
      | true => rw [h3] at h; exact ck _ _ h
      | false =>
        rw [h3] at h
        cases h4 : (sgn s 0 == [94] && (strLe [64] (sgn s 1) && strLe (sgn s 1) [95])) with
        | true => rw [h4] at h; cases h; exact Nat.le_refl 1
        | false =>
          rw [h4] at h
          cases h5 : plainE (sgn s 0) with
          | some v => rw [h5] at h; cases h; exact Nat.le_refl 1
          | none =>
            rw [h5] at h
            cases h6 : (neF s).2 with
            | some k => rw [h6] at h; cases h; exact Nat.le_refl 1
            | none => rw [h6] at h; cases h
section
variable {F : Fns} {G : Nat → Option V} {sg : Sig} {W : Nat} {m m2 : Loc} {H H1 H2 : Hp} {t : Ex} {bb : Sxs} {k : Nat} {v : V}
theorem lw_step (h1 : evalE F G sg t m H = .ok (.bool true) H1) (h2 : execSs F G sg W bb m H1 = .next m2 H2) : loopW (evalE F G sg t) (fun m H => execSs F G sg W bb m H) (k + 1) m H = loopW (evalE F G sg t) (fun m H => execSs F G sg W bb m H) k m2 H2 := lw_turn h1 h2 rfl
theorem lwS (h1 : evalE F G sg t m H = .ok (.bool true) H) (h2 : execSs F G sg W bb m H = .next m2 H2) : loopW (evalE F G sg t) (fun m H => execSs F G sg W bb m H) (k + 1) m H = loopW (evalE F G sg t) (fun m H => execSs F G sg W bb m H) k m2 H2 := lw_turn h1 h2 rfl
theorem lwX (h1 : evalE F G sg t m H = .ok (.bool true) H) (h2 : execSs F G sg W bb m H = .exc v H2) : loopW (evalE F G sg t) (fun m H => execSs F G sg W bb m H) (k + 1) m H = .exc v H2 := lw_turn h1 h2 rfl
theorem lwR (h1 : evalE F G sg t m H = .ok (.bool true) H) (h2 : execSs F G sg W bb m H = .ret v H2) : loopW (evalE F G sg t) (fun m H => execSs F G sg W bb m H) (k + 1) m H = .ret v H2 := lw_turn h1 h2 rfl
theorem lw_exc (h1 : evalE F G sg t m H = .ok (.bool true) H1) (h2 : execSs F G sg W bb m H1 = .exc v H2) : loopW (evalE F G sg t) (fun m H => execSs F G sg W bb m H) (k + 1) m H = .exc v H2 := lw_turn h1 h2 rfl
theorem lw_ret (h1 : evalE F G sg t m H = .ok (.bool true) H1) (h2 : execSs F G sg W bb m H1 = .ret v H2) : loopW (evalE F G sg t) (fun m H => execSs F G sg W bb m H) (k + 1) m H = .ret v H2 := lw_turn h1 h2 rfl
end
section
variable {H : Hp} {i : Nat} {d l l' : O} {vs : List V} {v : V}
theorem gj (hi : i < H.length) : ((H ++ [l]).set i d)[H.length]? = some l := by
  rw [List.getElem?_set_ne (Nat.ne_of_lt hi), List.getElem?_append_right (Nat.le_refl _), Nat.sub_self]; rfl
theorem sj (hi : i < H.length) : ((H ++ [l]).set i d).set H.length l' = (H ++ [l']).set i d := by
  rw [List.set_comm _ _ (Nat.ne_of_lt hi), List.set_append_right _ _ (Nat.le_refl _), Nat.sub_self]; rfl
theorem aj {l : List O} (hi : i < H.length) : H.set i d ++ l = (H ++ l).set i d := (List.set_append_left i d hi).symm
theorem hij {l : List O} (hi : i < H.length) : i < (H ++ l).length := by rw [List.length_append]; exact Nat.lt_add_right _ hi
theorem isl (hi : i < H.length) : isListV ((H ++ [O.list vs]).set i d) (.obj H.length) = true := by
  show (match ((H ++ [O.list vs]).set i d)[H.length]? with | some (.list _) => true | _ => false) = true
  rw [gj hi]
theorem app (hi : i < H.length) (hl : vs.length < big) : appendV ((H ++ [O.list vs]).set i d) (.obj H.length) v = .ok .none ((H ++ [O.list (vs ++ [v])]).set i d) := by
  show (match ((H ++ [O.list vs]).set i d)[H.length]? with | some (.list us) => (if us.length < big then Rs.ok V.none (((H ++ [O.list vs]).set i d).set H.length (.list (us ++ [v]))) else .stuck) | _ => .stuck) = _
  rw [gj hi]
  exact (if_pos hl).trans (by rw [sj hi])
theorem joinV_of {H : Hp} {j : Nat} {sep : List Nat} {ls : List (List Nat)} (hg : H[j]? = some (.list (ls.map .str))) (hl : (ls.map fun x => x.length + sep.length).sum ≤ big) : joinV H (.str sep) (.obj j) = some (.str (joinL sep ls)) := by
  have sm : ∀ l : List (List Nat), strsOf (l.map V.str) = some l := fun l => by
    induction l with
    | nil => rfl
    | cons x r ih => show (strsOf (r.map V.str)).map (x :: ·) = _; rw [ih]; rfl
  show (match H[j]? with | some (.list vs) => (strsOf vs).bind fun l => if (l.map fun (x : List Nat) => x.length + sep.length).sum ≤ big then some (V.str (joinL sep l)) else none | _ => none) = _
  rw [hg]
  show (strsOf (ls.map V.str)).bind _ = _
  rw [sm]; exact if_pos hl
end
theorem map_snoc (acc : List (List Nat)) (x : List Nat) : acc.map V.str ++ [.str x] = (acc ++ [x]).map V.str := by rw [List.map_append]; rfl
theorem acc_snoc {acc : List (List Nat)} {x : List Nat} (h : ∀ y ∈ acc, y.length ≤ 1) (hx : x.length ≤ 1) : ∀ y ∈ acc ++ [x], y.length ≤ 1 := fun y hy => (List.mem_append.mp hy).elim (h y) fun hy => by rw [List.mem_singleton.mp hy]; exact hx
section
variable {W n i : Nat} {H : Hp} {σ : Sg}
/-- the end of the inner part of a text -/
noncomputable def rtZ (H : Hp) (i : Nat) (σ : Sg) (r : RT) (z : Z) : Prop := match r with
  | .ok acc m => (∀ x ∈ acc, x.length ≤ 1) ∧ acc.length ≤ 2000 ∧ sgn σ.s m = [34] ∧ ∃ sg1, z = .next [some (.inst 147 i), some σ.plc, some (.obj H.length), sg1] ((H ++ [O.list (acc.map .str)]).set i (σ.adv m).dict)
  | .err d e => ∃ l, z = .exc (σ.adv d).plc ((H ++ [l]).set i (σ.adv e).dict)
theorem text_loop (hi : i < H.length) (ok : σ.Ok) (hW : W = 1001) : ∀ (f k : Nat) (acc : List (List Nat)) (r : RT) (sg0 : Option V), (∀ x ∈ acc, x.length ≤ 1) → acc.length + f ≤ 2000 → rtL f (σ.s.drop k) acc k = some r →
    rtZ H i σ r (loopW (evalE (FF W (n + 7)) GV sg p_read_text_T1) (fun m H => execSs (FF W (n + 7)) GV sg W p_read_text_L1 m H) f
        [some (.inst 147 i), some σ.plc, some (.obj H.length), sg0] ((H ++ [O.list (acc.map .str)]).set i (σ.adv k).dict))
  | 0, _, _, _, _, _, _, h => by cases h
  | f + 1, k, acc, r, sg0, hacc, hf, h => by
    have hb : (acc.map V.str).length < big := by rw [List.length_map]; exact Nat.lt_of_le_of_lt (show _ ≤ 2000 by omega) (by decide)
    have hiK : i < (H ++ [O.list (acc.map .str)]).length := hij hi
    have s0 := k_signn (W := W) (n := n + 5) hiK ok k
    have a0 := k_stepn (W := W) (n := n + 4) hiK ok k
    have a1 := k_stepn (W := W) (n := n + 4) hiK ok (k + 1)
    have s1 := k_signn (W := W) (n := n + 5) hiK ok (k + 1)
    have ht : evalE (FF W (n + 7)) GV sg p_read_text_T1 [some (.inst 147 i), some σ.plc, some (.obj H.length), sg0] ((H ++ [O.list (acc.map .str)]).set i (σ.adv k).dict) = .ok (.bool (!(sgn σ.s k == [34]))) ((H ++ [O.list (acc.map .str)]).set i (σ.adv k).dict) := by repeat' (first | with_reducible exact s0 | k_updF)
    replace h : (bif sgn (σ.s.drop k) 0 == [34] then some (.ok acc k)
      else bif sgn (σ.s.drop k) 0 == [] || sgn (σ.s.drop k) 0 == [10] then some (.err 0 (k + 1))
      else bif sgn (σ.s.drop k) 0 == [92] then
        bif sgn (σ.s.drop k) 1 == [38] then rtL f ((σ.s.drop k).drop 2) acc (k + 2)
        else bif among (sgn (σ.s.drop k) 1) sBL then
          bif sgn ((σ.s.drop k).drop 1) (twl sBL ((σ.s.drop k).drop 1)) == [92] then rtL f ((σ.s.drop k).drop (1 + (twl sBL ((σ.s.drop k).drop 1) + 1))) acc (k + (1 + (twl sBL ((σ.s.drop k).drop 1) + 1))) else some (.err 0 (k + (1 + (twl sBL ((σ.s.drop k).drop 1) + 1))))
        else match reF ((σ.s.drop k).drop 1) with
          | .err d e => some (.err (k + (1 + d)) (k + (1 + e)))
          | .ok v n => (strV v).bind fun x => rtL f ((σ.s.drop k).drop (1 + n)) (acc ++ [x]) (k + (1 + n))
      else rtL f ((σ.s.drop k).drop 1) (acc ++ [sgn (σ.s.drop k) 0]) (k + 1)) = some r := h
    simp only [sgn_dd, List.drop_drop, Nat.add_zero, ← Nat.add_assoc] at h
    cases c34 : (sgn σ.s k == [34]) with
    | true =>
      rw [c34] at h ht
      cases h
      exact ⟨hacc, by omega, beq_iff_eq.mp c34, sg0, lw_end ht⟩
    | false =>
      rw [c34] at h ht
      replace ht := ht
      cases c10 : (sgn σ.s k == [] || sgn σ.s k == [10]) with
      | true =>
        rw [c10] at h
        cases h
        refine ⟨O.list (acc.map .str), lw_exc ht ?_⟩
        repeat' (first | with_reducible exact s0 | with_reducible exact a0 | with_reducible exact (cIn2 _ _) | with_reducible exact c10 | k_updF)
      | false =>
        rw [c10] at h
        cases c92 : (sgn σ.s k == [92]) with
        | false =>
          rw [c92] at h
          have ih := text_loop hi ok hW f (k + 1) (acc ++ [sgn σ.s k]) r (some (.str (sgn σ.s k))) (acc_snoc hacc (sgn_len _ _)) (by rw [List.length_append]; show acc.length + 1 + f ≤ _; omega) h
          rw [← map_snoc] at ih
          refine (lw_step ht ?_).symm ▸ ih
          repeat' (first | with_reducible exact s0 | with_reducible exact a0 | with_reducible exact (cIn2 _ _) | with_reducible exact c10 | with_reducible exact c92 | with_reducible exact nF c92 | with_reducible exact nT c92 | with_reducible exact (isl hi) | with_reducible exact (app hi hb) | k_updF)
        | true =>
          rw [c92] at h
          cases c38 : (sgn σ.s (k + 1) == [38]) with
          | true =>
            rw [c38] at h
            refine (lw_step ht ?_).symm ▸ text_loop hi ok hW f (k + 2) acc r (some (.str (sgn σ.s k))) hacc (by omega) h
            repeat' (first | with_reducible exact s0 | with_reducible exact a0 | with_reducible exact (cIn2 _ _) | with_reducible exact c10 | with_reducible exact c92 | with_reducible exact nF c92 | with_reducible exact nT c92 | with_reducible exact s1 | with_reducible exact a1 | with_reducible exact c38 | with_reducible exact nF c38 | with_reducible exact nT c38 | k_updF)
          | false =>
            rw [c38] at h
            have b1 : FF W (n + 7) 7 [.str (sgn σ.s (k + 1)), .str [32, 9, 10, 13, 12, 11]] ((H ++ [O.list (acc.map .str)]).set i (σ.adv (k + 1)).dict) = .ok (.bool (among (sgn σ.s (k + 1)) sBL)) ((H ++ [O.list (acc.map .str)]).set i (σ.adv (k + 1)).dict) := c_among (W := W) (n := n + 5) (ls := sBL) (sgn_len σ.s (k + 1))
            cases cbl : among (sgn σ.s (k + 1)) sBL with
            | true =>
              rw [cbl] at h
              have sgap := k_skipgap (W := W) (n := n + 2) hiK (ok.adv (k + 1)) hW σ.plc
              rw [Sg.adv_s, Sg.adv_adv, sgn_dd, ← Nat.add_assoc] at sgap
              cases cg : (sgn σ.s (k + 1 + twl sBL (σ.s.drop (k + 1))) == [92]) with
              | true =>
                rw [cg] at h sgap
                rw [cond_true] at sgap
                refine (lw_step ht ?_).symm ▸ text_loop hi ok hW f _ acc r (some (.str (sgn σ.s k))) hacc (by omega) h
                repeat' (first | with_reducible exact s0 | with_reducible exact a0 | with_reducible exact (cIn2 _ _) | with_reducible exact c10 | with_reducible exact c92 | with_reducible exact nF c92 | with_reducible exact nT c92 | with_reducible exact s1 | with_reducible exact a1 | with_reducible exact c38 | with_reducible exact nF c38 | with_reducible exact nT c38 | with_reducible exact b1 | with_reducible exact cbl | with_reducible exact sgap | k_updF)
              | false =>
                rw [cg] at h sgap
                rw [cond_false] at sgap
                cases h
                refine ⟨O.list (acc.map .str), lw_exc ht ?_⟩
                repeat' (first | with_reducible exact s0 | with_reducible exact a0 | with_reducible exact (cIn2 _ _) | with_reducible exact c10 | with_reducible exact c92 | with_reducible exact nF c92 | with_reducible exact nT c92 | with_reducible exact s1 | with_reducible exact a1 | with_reducible exact c38 | with_reducible exact nF c38 | with_reducible exact nT c38 | with_reducible exact b1 | with_reducible exact cbl | with_reducible exact sgap | k_updF)
            | false =>
              rw [cbl] at h
              have es := k_escn (W := W) (n := n + 1) hiK ok hW (k + 1)
              cases hr : reF (σ.s.drop (k + 1)) with
              | err d e =>
                rw [hr] at h es
                cases h
                change _ = Rs.exc (σ.adv (k + 1 + d)).plc ((H ++ [O.list (acc.map .str)]).set i (σ.adv (k + 1 + e)).dict) at es
                refine ⟨O.list (acc.map .str), lw_exc ht ?_⟩
                have bx : ∀ {as : Exs} {m : Loc} {K : Hp}, evalE (FF W (n + 7)) GV sg (.call 17 as) m K = .exc (σ.adv (k + 1 + d)).plc ((H ++ [O.list (acc.map .str)]).set i (σ.adv (k + 1 + e)).dict) → evalE (FF W (n + 7)) GV sg (.loc 2) m K = .ok (.obj H.length) K → isListV K (.obj H.length) = true → evalE (FF W (n + 7)) GV sg (.append (.loc 2) (.call 17 as)) m K = .exc (σ.adv (k + 1 + d)).plc ((H ++ [O.list (acc.map .str)]).set i (σ.adv (k + 1 + e)).dict) := fun h1 h2 h3 => bind_ok h2 ((if_pos h3).trans (bind_ex h1))
                repeat' (first | with_reducible exact s0 | with_reducible exact a0 | with_reducible exact (cIn2 _ _) | with_reducible exact c10 | with_reducible exact c92 | with_reducible exact nF c92 | with_reducible exact nT c92 | with_reducible exact s1 | with_reducible exact a1 | with_reducible exact c38 | with_reducible exact nF c38 | with_reducible exact nT c38 | with_reducible exact b1 | with_reducible exact cbl | with_reducible exact (bx (r_call (r_cons loc0 r_nil) es) loc2 (isl hi)) | k_updF)
              | ok v m =>
                rw [hr] at h es
                change _ = Rs.ok v ((H ++ [O.list (acc.map .str)]).set i (σ.adv (k + 1 + m)).dict) at es
                cases v with
                | str x =>
                  have ih := text_loop hi ok hW f (k + 1 + m) (acc ++ [x]) r (some (.str (sgn σ.s k))) (acc_snoc hacc (reF_len hr)) (by rw [List.length_append]; show acc.length + 1 + f ≤ _; omega) h
                  rw [← map_snoc] at ih
                  refine (lw_step ht ?_).symm ▸ ih
                  repeat' (first | with_reducible exact s0 | with_reducible exact a0 | with_reducible exact (cIn2 _ _) | with_reducible exact c10 | with_reducible exact c92 | with_reducible exact nF c92 | with_reducible exact nT c92 | with_reducible exact s1 | with_reducible exact a1 | with_reducible exact c38 | with_reducible exact nF c38 | with_reducible exact nT c38 | with_reducible exact b1 | with_reducible exact cbl | with_reducible exact es | with_reducible exact (isl hi) | with_reducible exact (app hi hb) | k_updF)
                | _ => cases h
noncomputable def rtF (s : List Nat) : Option LX := (rtL 1001 (s.drop 1) [] 1).map fun r => match r with
  | .ok acc n => .ok (.str (joinL [] acc)) (n + 1)
  | .err d e => .err d e
theorem sum_le : ∀ l : List (List Nat), (∀ x ∈ l, x.length ≤ 1) → (l.map fun x => x.length + ([] : List Nat).length).sum ≤ l.length
  | [], _ => Nat.le_refl 0
  | x :: r, h => by
    rw [List.map_cons, List.sum_cons, List.length_cons, Nat.add_comm r.length]
    exact Nat.add_le_add (h x (List.mem_cons_self ..)) (sum_le r fun y hy => h y (List.mem_cons_of_mem _ hy))
theorem k_text (hi : i < H.length) (ok : σ.Ok) (hW : W = 1001) {r : LX} (hr : rtF σ.s = some r) : ∃ l : O, FF W (n + 8) 20 [.inst 147 i] (H.set i σ.dict) = r.run (H ++ [l]) i σ := by
  have pl := k_place (W := W) (n := n + 5) (σ := σ) hi
  have a0 := k_step1 (W := W) (n := n + 4) hi ok
  have ln : (H.set i (σ.adv 1).dict).length = H.length := List.length_set
  have ap : H.set i (σ.adv 1).dict ++ [O.list []] = (H ++ [O.list []]).set i (σ.adv 1).dict := aj hi
  have ml : evalE (FF W (n + 7)) GV sg (.mlst .nil) [some (.inst 147 i), some σ.plc, none, none] (H.set i (σ.adv 1).dict) = .ok (.obj H.length) ((H ++ [O.list []]).set i (σ.adv 1).dict) := by
    rw [← ap, ← ln]; exact r_mlst r_nil
  unfold rtF at hr
  cases h : rtL 1001 (σ.s.drop 1) [] 1 with
  | none => rw [h] at hr; cases hr
  | some t =>
    rw [h] at hr
    rw [← hW] at h
    have L := text_loop (W := W) (n := n) hi ok hW W 1 [] t none (fun x hx => nomatch hx) (by rw [hW]; decide) h
    cases t with
    | ok acc m =>
      cases hr
      obtain ⟨h1, h2, h3, sg1, L⟩ := L
      refine ⟨O.list (acc.map .str), ?_⟩
      have hiK : i < (H ++ [O.list (acc.map .str)]).length := hij hi
      have am := k_stepn (W := W) (n := n + 4) hiK ok m
      have jv : joinV ((H ++ [O.list (acc.map .str)]).set i (σ.adv (m + 1)).dict) (.str []) (.obj H.length) = some (.str (joinL [] acc)) := joinV_of (gj hi) (Nat.le_trans (sum_le acc h1) (Nat.le_trans h2 (by decide)))
      refine k_of (n := n + 6) (fn := p_read_text) (B := p_read_textB) (m := [some (.inst 147 i), none, none, none]) rfl rfl rfl (x := .ret (.str (joinL [] acc)) ((H ++ [O.list (acc.map .str)]).set i (σ.adv (m + 1)).dict)) ?_ rfl
      repeat' (first | with_reducible exact pl | with_reducible exact a0 | with_reducible exact ml | exact L | with_reducible exact am | with_reducible exact jv | k_updF)
    | err d e =>
      cases hr
      obtain ⟨l, L⟩ := L
      refine ⟨l, ?_⟩
      refine k_of (n := n + 6) (fn := p_read_text) (B := p_read_textB) (m := [some (.inst 147 i), none, none, none]) rfl rfl rfl (x := .exc (σ.adv d).plc ((H ++ [l]).set i (σ.adv e).dict)) ?_ rfl
      repeat' (first | with_reducible exact pl | with_reducible exact a0 | with_reducible exact ml | exact L | k_updF)
end
end
-- Q10
section
inductive RG where
  | con (acc : List (List Nat)) (nm : List Nat) (k : Nat)
  | ret (v : V) (acc : List (List Nat)) (k : Nat)
noncomputable def lensL (l : List (List Nat)) : Nat := (l.map fun x => x.length + 1).sum
noncomputable def rgB (g : List Nat → List (List Nat) → List Nat → Nat → Option RG) (s : List Nat) (acc : List (List Nat)) (nm : List Nat) (k : Nat) (b : List Nat) : Option RG :=
  bif b == sSYMW && symKind ((s.drop 1).takeWhile sSYM.contains) == [111, 112] then some (.con acc nm k)
  else bif Nat.ble acc.length 1000 && Nat.ble (lensL (acc ++ [nm])) 1000 then
    bif b == sCON then g (s.drop (1 + twl sNAME (s.drop 1))) (acc ++ [nm]) ((s.drop 1).takeWhile sNAME.contains) (k + (1 + twl sNAME (s.drop 1)))
    else bif b == sSYMW then some (.ret (.tup [.str (symKind ((s.drop 1).takeWhile sSYM.contains)), .str ((s.drop 1).takeWhile sSYM.contains), .str (joinL [46] (acc ++ [nm]))]) (acc ++ [nm]) (k + (1 + twl sSYM (s.drop 1))))
    else some (.ret (.tup [.str sVAR, .str ((s.drop 1).takeWhile sNAME.contains), .str (joinL [46] (acc ++ [nm]))]) (acc ++ [nm]) (k + (1 + twl sNAME (s.drop 1))))
  else none
noncomputable def rgL : Nat → List Nat → List (List Nat) → List Nat → Nat → Option RG
  | 0, _, _, _, _ => none
  | f + 1, s, acc, nm, k => match strV (behindQ s) with
    | some b => rgB (rgL f) s acc nm k b
    | none => some (.con acc nm k)
theorem behind_cases (s : List Nat) : behindQ s = .none ∨ behindQ s = .str sCON ∨ (behindQ s = .str sSYMW ∧ ∃ c r, s.drop 1 = c :: r ∧ sSYM.contains c = true) ∨ behindQ s = .str sVAR := by
  unfold behindQ
  cases (sgn s 0 == [46]) with
  | false => exact .inl rfl
  | true =>
    cases among (sgn s 1) sGREAT with
    | true => exact .inr (.inl rfl)
    | false =>
      cases h2 : among (sgn s 1) sSYM with
      | true =>
        refine .inr (.inr (.inl ⟨rfl, ?_⟩))
        unfold sgn at h2
        cases hd : s.drop 1 with
        | nil => rw [hd] at h2; cases h2
        | cons c r => rw [hd] at h2; exact ⟨c, r, rfl, h2⟩
      | false =>
        cases among (sgn s 1) sSMALL with
        | false => exact .inl rfl
        | true =>
          cases keysL.contains ((s.drop 1).takeWhile sNAME.contains) with
          | true => exact .inl rfl
          | false => exact .inr (.inr (.inr rfl))
section
variable {W n i : Nat} {H : Hp} {σ : Sg}
noncomputable def rgZ (H : Hp) (i : Nat) (σ : Sg) (r : RG) (z : Z) : Prop := match r with
  | .con acc nm m => ∃ b, z = .next [some (.inst 147 i), some (.obj H.length), some (.str nm), b, none] ((H ++ [O.list (acc.map .str)]).set i (σ.adv m).dict)
  | .ret v acc m => z = .ret v ((H ++ [O.list (acc.map .str)]).set i (σ.adv m).dict)
theorem k_behindn (hi : i < H.length) (ok : σ.Ok) (hW : W = 1001) (k : Nat) : FF W (n + 3) 22 [.inst 147 i] (H.set i (σ.adv k).dict) = .ok (behindQ (σ.s.drop k)) (H.set i (σ.adv k).dict) := by
  have := k_behind (W := W) (n := n) hi (ok.adv k) hW
  rw [Sg.adv_s] at this
  exact this
theorem great_loop (hi : i < H.length) (ok : σ.Ok) (hW : W = 1001) : ∀ (f k : Nat) (acc : List (List Nat)) (nm : List Nat) (r : RG), rgL f (σ.s.drop k) acc nm k = some r →
    rgZ H i σ r (loopW (evalE (FF W (n + 7)) GV sg p_read_great_name_T1) (fun m H => execSs (FF W (n + 7)) GV sg W p_read_great_name_L1 m H) (f + 1)
        [some (.inst 147 i), some (.obj H.length), some (.str nm), some (behindQ (σ.s.drop k)), none] ((H ++ [O.list (acc.map .str)]).set i (σ.adv k).dict))
  | 0, _, _, _, _, h => by cases h
  | f + 1, k, acc, nm, r, h => by
    have hiK : i < (H ++ [O.list (acc.map .str)]).length := hij hi
    have hiK2 : i < (H ++ [O.list (acc.map .str ++ [.str nm])]).length := hij hi
    replace h : (match strV (behindQ (σ.s.drop k)) with | some b => rgB (rgL f) (σ.s.drop k) acc nm k b | none => some (.con acc nm k)) = some r := h
    have go : ∀ {b : List Nat}, (bif Nat.ble acc.length 1000 && Nat.ble (lensL (acc ++ [nm])) 1000 then b = b else False) → (acc.map V.str).length < big ∧ (∀ d : O, joinV ((H ++ [O.list (acc.map .str ++ [.str nm])]).set i d) (.str [46]) (.obj H.length) = some (.str (joinL [46] (acc ++ [nm])))) := fun {b} hq => by
      cases hc : (Nat.ble acc.length 1000 && Nat.ble (lensL (acc ++ [nm])) 1000) with
      | false => rw [hc] at hq; exact hq.elim
      | true =>
        have q := Bool.and_eq_true_iff.mp hc
        refine ⟨?_, fun d => ?_⟩
        · rw [List.length_map]; exact Nat.lt_of_le_of_lt (Nat.le_of_ble_eq_true q.1) (by decide)
        · rw [map_snoc]
          exact joinV_of (gj hi) (Nat.le_trans (Nat.le_of_ble_eq_true q.2) (by decide))
    have nl := fun K => c_names (W := W) (n := n + 5) (H := K)
    have a0 := k_stepn (W := W) (n := n + 4) hiK2 ok k
    have tn := k_taken (W := W) (n := n + 3) hiK2 ok hW sNAME (k + 1)
    rcases behind_cases (σ.s.drop k) with e | e | ⟨e, c, rr, hd, hc⟩ | e
    · rw [e] at h ⊢
      cases h
      refine ⟨some .none, lw_end ?_⟩
      repeat' (first | k_updF)
    · rw [e] at h ⊢
      replace h : (bif Nat.ble acc.length 1000 && Nat.ble (lensL (acc ++ [nm])) 1000 then rgL f ((σ.s.drop k).drop (1 + twl sNAME ((σ.s.drop k).drop 1))) (acc ++ [nm]) (((σ.s.drop k).drop 1).takeWhile sNAME.contains) (k + (1 + twl sNAME ((σ.s.drop k).drop 1))) else none) = some r := h
      rw [List.drop_drop, List.drop_drop, ← Nat.add_assoc] at h
      cases hl : (Nat.ble acc.length 1000 && Nat.ble (lensL (acc ++ [nm])) 1000) with
      | false => rw [hl] at h; cases h
      | true =>
        obtain ⟨hb, jn⟩ := go (b := []) (by rw [hl]; rfl)
        rw [hl, cond_true] at h
        have bh := k_behindn (W := W) (n := n + 4) hiK2 ok hW (k + 1 + twl sNAME (σ.s.drop (k + 1)))
        have ih := great_loop hi ok hW f _ _ _ _ h
        rw [← map_snoc] at ih
        refine (lwS ?_ ?_).symm ▸ ih
        · repeat' (first | k_updF)
        · repeat' (first | with_reducible exact (isl hi) | with_reducible exact (app hi hb) | with_reducible exact a0 | with_reducible exact (nl _) | with_reducible exact tn | with_reducible exact bh | k_updF)
    · have sa := k_symahead (W := W) (n := n + 4) hiK (ok.adv k) hW
      rw [Sg.adv_s] at sa
      have hne : ((σ.s.drop k).drop 1).takeWhile sSYM.contains = c :: rr.takeWhile sSYM.contains := by rw [hd, List.takeWhile_cons_of_pos hc]
      have sk := fun H => c_symkind (W := W) (n := n + 5) (H := H) (c := c) (r := rr.takeWhile sSYM.contains) (by
        have := len_drop ok (k + 1)
        rw [← List.drop_drop, hd] at this
        exact Nat.le_trans (List.takeWhile_sublist _).length_le (Nat.le_trans (Nat.le_succ _) this))
      rw [← hne] at sk
      rw [e] at h ⊢
      cases ho : (symKind (((σ.s.drop k).drop 1).takeWhile sSYM.contains) == [111, 112]) with
      | true =>
        replace h : (bif symKind (((σ.s.drop k).drop 1).takeWhile sSYM.contains) == [111, 112] then some (RG.con acc nm k) else _) = some r := h
        rw [ho] at h
        cases h
        refine ⟨some .none, (lwS (m2 := [some (.inst 147 i), some (.obj H.length), some (.str nm), some .none, none]) (H2 := (H ++ [O.list (acc.map .str)]).set i (σ.adv k).dict) ?_ ?_).trans (lw_end ?_)⟩
        · repeat' (first | k_updF)
        · repeat' (first | with_reducible exact sa | with_reducible exact (sk _) | with_reducible exact ho | k_updF)
        · repeat' (first | k_updF)
      | false =>
        replace h : (bif symKind (((σ.s.drop k).drop 1).takeWhile sSYM.contains) == [111, 112] then some (RG.con acc nm k) else bif Nat.ble acc.length 1000 && Nat.ble (lensL (acc ++ [nm])) 1000 then some (.ret (.tup [.str (symKind (((σ.s.drop k).drop 1).takeWhile sSYM.contains)), .str (((σ.s.drop k).drop 1).takeWhile sSYM.contains), .str (joinL [46] (acc ++ [nm]))]) (acc ++ [nm]) (k + (1 + twl sSYM ((σ.s.drop k).drop 1)))) else none) = some r := h
        rw [ho, cond_false] at h
        cases hl : (Nat.ble acc.length 1000 && Nat.ble (lensL (acc ++ [nm])) 1000) with
        | false => rw [hl] at h; cases h
        | true =>
          obtain ⟨hb, jn⟩ := go (b := []) (by rw [hl]; rfl)
          rw [hl] at h
          have ts := k_taken (W := W) (n := n + 3) hiK2 ok hW sSYM (k + 1)
          rw [← List.drop_drop] at ts
          cases h
          show _ = Z.ret _ _
          rw [← Nat.add_assoc, ← map_snoc]
          refine lwR ?_ ?_
          · repeat' (first | k_updF)
          · repeat' (first | with_reducible exact sa | with_reducible exact (sk _) | with_reducible exact ho | with_reducible exact (isl hi) | with_reducible exact (app hi hb) | with_reducible exact a0 | with_reducible exact ts | with_reducible exact g_sym | with_reducible exact (jn _) | k_updF)
    · rw [e] at h ⊢
      replace h : (bif Nat.ble acc.length 1000 && Nat.ble (lensL (acc ++ [nm])) 1000 then some (.ret (.tup [.str sVAR, .str (((σ.s.drop k).drop 1).takeWhile sNAME.contains), .str (joinL [46] (acc ++ [nm]))]) (acc ++ [nm]) (k + (1 + twl sNAME ((σ.s.drop k).drop 1)))) else none) = some r := h
      rw [List.drop_drop, ← Nat.add_assoc] at h
      cases hl : (Nat.ble acc.length 1000 && Nat.ble (lensL (acc ++ [nm])) 1000) with
      | false => rw [hl] at h; cases h
      | true =>
        obtain ⟨hb, jn⟩ := go (b := []) (by rw [hl]; rfl)
        rw [hl] at h
        cases h
        show _ = Z.ret _ _
        rw [← map_snoc]
        refine lwR ?_ ?_
        · repeat' (first | k_updF)
        · repeat' (first | with_reducible exact (isl hi) | with_reducible exact (app hi hb) | with_reducible exact a0 | with_reducible exact (nl _) | with_reducible exact tn | with_reducible exact (jn _) | k_updF)
noncomputable def rgF (s : List Nat) : Option LX := (rgL 1000 (s.drop (twl sNAME s)) [] (s.takeWhile sNAME.contains) (twl sNAME s)).bind fun r => match r with
  | .con acc nm k => bif Nat.ble (lensL acc) 1000 && (acc.map V.str).all (plain 3) then some (.ok (.tup [.str sCON, .str nm, bif acc.isEmpty then .none else .str (joinL [46] acc)]) k) else none
  | .ret v _ k => some (.ok v k)
theorem k_great (hi : i < H.length) (ok : σ.Ok) (hW : W = 1001) {r : LX} (h : rgF σ.s = some r) : ∃ l : O, FF W (n + 8) 23 [.inst 147 i] (H.set i σ.dict) = r.run (H ++ [l]) i σ := by
  have hiK : i < (H ++ [O.list []]).length := hij hi
  have tn := k_take (W := W) (n := n + 3) hiK ok hW sNAME
  have nl := fun K => c_names (W := W) (n := n + 5) (H := K)
  have bh := k_behindn (W := W) (n := n + 4) hiK ok hW (twl sNAME σ.s)
  have ln : (H.set i σ.dict).length = H.length := List.length_set
  have ap : H.set i σ.dict ++ [O.list []] = (H ++ [O.list []]).set i σ.dict := aj hi
  have ml : evalE (FF W (n + 7)) GV sg (.mlst .nil) [some (.inst 147 i), none, none, none, none] (H.set i σ.dict) = .ok (.obj H.length) ((H ++ [O.list []]).set i σ.dict) := by
    rw [← ap, ← ln]; exact r_mlst r_nil
  unfold rgF at h
  cases hr : rgL 1000 (σ.s.drop (twl sNAME σ.s)) [] (σ.s.takeWhile sNAME.contains) (twl sNAME σ.s) with
  | none => rw [hr] at h; cases h
  | some g =>
    rw [hr] at h
    have L := great_loop (W := W) (n := n) hi ok hW 1000 _ _ _ _ hr
    have hW' : 1000 + 1 = W := hW.symm
    rw [hW'] at L
    cases g with
    | con acc nm k =>
      obtain ⟨b, L⟩ := L
      replace h : (bif Nat.ble (lensL acc) 1000 && (acc.map V.str).all (plain 3) then some (LX.ok (.tup [.str sCON, .str nm, bif acc.isEmpty then .none else .str (joinL [46] acc)]) k) else none) = some r := h
      cases hl : (Nat.ble (lensL acc) 1000 && (acc.map V.str).all (plain 3)) with
      | false => rw [hl] at h; cases h
      | true =>
        rw [hl] at h
        have q := Bool.and_eq_true_iff.mp hl
        cases h
        refine ⟨O.list (acc.map .str), ?_⟩
        have jn : joinV ((H ++ [O.list (acc.map .str)]).set i (σ.adv k).dict) (.str [46]) (.obj H.length) = some (.str (joinL [46] acc)) := joinV_of (gj hi) (Nat.le_trans (Nat.le_of_ble_eq_true q.1) (by decide))
        have nz : cmpV ((H ++ [O.list (acc.map .str)]).set i (σ.adv k).dict) .ne (.obj H.length) (.lst []) = some (!(acc.map V.str).isEmpty) := by
          show listO (fun vs => if vs.all (plain 3) then some (!vs.isEmpty) else none) ((H ++ [O.list (acc.map V.str)]).set i (σ.adv k).dict)[H.length]? = _
          rw [gj hi]; exact if_pos q.2
        cases acc with
        | nil =>
          refine k_of (n := n + 6) (fn := p_read_great_name) (B := p_read_great_nameB) (m := [some (.inst 147 i), none, none, none, none]) rfl rfl rfl (x := .ret (.tup [.str sCON, .str nm, .none]) ((H ++ [O.list []]).set i (σ.adv k).dict)) ?_ rfl
          repeat' (first | with_reducible exact ml | with_reducible exact (nl _) | with_reducible exact tn | with_reducible exact bh | exact L | exact nz | k_updF)
        | cons a as =>
          refine k_of (n := n + 6) (fn := p_read_great_name) (B := p_read_great_nameB) (m := [some (.inst 147 i), none, none, none, none]) rfl rfl rfl (x := .ret (.tup [.str sCON, .str nm, .str (joinL [46] (a :: as))]) ((H ++ [O.list ((a :: as).map .str)]).set i (σ.adv k).dict)) ?_ rfl
          repeat' (first | with_reducible exact ml | with_reducible exact (nl _) | with_reducible exact tn | with_reducible exact bh | exact L | exact nz | with_reducible exact jn | k_updF)
    | ret v acc k =>
      cases h
      refine ⟨O.list (acc.map .str), ?_⟩
      refine k_of (n := n + 6) (fn := p_read_great_name) (B := p_read_great_nameB) (m := [some (.inst 147 i), none, none, none, none]) rfl rfl rfl (x := .ret v ((H ++ [O.list (acc.map .str)]).set i (σ.adv k).dict)) ?_ rfl
      repeat' (first | with_reducible exact ml | with_reducible exact (nl _) | with_reducible exact tn | with_reducible exact bh | exact L | k_updF)
end
end
-- Q11
section
noncomputable def sSPC : List Nat := [40, 41, 91, 93, 44, 59, 96, 123, 125]
noncomputable def sEND : List Nat := [101, 110, 100]
noncomputable def kSPEC : List Nat := [115, 112, 101, 99, 105, 97, 108]
noncomputable def kINT : List Nat := [105, 110, 116]
noncomputable def kKEY : List Nat := [107, 101, 121]
noncomputable def kCHAR : List Nat := [99, 104, 97, 114]
noncomputable def kTEXT : List Nat := [116, 101, 120, 116]
noncomputable def lx (s : List Nat) (k : List Nat) (r : LX) : LX := match r with
  | .ok v n => .ok (.tup [.str k, .str (s.take n), v]) n
  | .err d e => .err d e
/-- a word read -/
noncomputable def rwF (s : List Nat) : Option LX :=
  bif sgn s 0 == [] then some (.ok (.tup [.str sEND, .str [], .none]) 0)
  else bif among (sgn s 0) sSPC then some (.ok (.tup [.str kSPEC, .str (sgn s 0), .none]) 1)
  else bif among (sgn s 0) sDIG then (bif (sgn s 1).all (· < 128) then some (.ok (.tup [.str kINT, .str (s.take (rnF s).2), .int (rnF s).1]) (rnF s).2) else none)
  else bif among (sgn s 0) sSMALL then some (.ok (.tup [.str (bif keysL.contains (s.takeWhile sNAME.contains) then kKEY else sVAR), .str (s.takeWhile sNAME.contains), .none]) (twl sNAME s))
  else bif among (sgn s 0) sGREAT then rgF s
  else bif among (sgn s 0) sSYM then some (.ok (.tup [.str (symKind (s.takeWhile sSYM.contains)), .str (s.takeWhile sSYM.contains), .none]) (twl sSYM s))
  else bif sgn s 0 == [39] then some (lx s kCHAR (rcF s))
  else bif sgn s 0 == [34] then (rtF s).map (lx s kTEXT)
  else some (.err 0 0)
section
variable {F : Fns} {G : Nat → Option V} {sg : Sig} {W : Nat} {m m1 : Loc} {H H1 : Hp} {s : Sx} {ss : Sxs} {P : Z → Prop} {z : Z}
theorem ends_skip (h1 : execS F G sg W s m H = .next m1 H1) (h2 : P (execSs F G sg W ss m1 H1)) : P (execSs F G sg W (.cons s ss) m H) := by
  have e : execSs F G sg W (.cons s ss) m H = execSs F G sg W ss m1 H1 := s_cons h1 rfl
  rw [e]; exact h2
theorem ends_of (h1 : execSs F G sg W ss m H = z) (h2 : P z) : P (execSs F G sg W ss m H) := by rw [h1]; exact h2
end
noncomputable def EndsG (H : Hp) (i : Nat) (σ : Sg) (r : LX) (z : Z) : Prop := ∃ G : Hp, fin z = r.run (H ++ G) i σ
theorem ends_nil {H : Hp} {i : Nat} {σ : Sg} {r : LX} {z : Z} (h : z = r.z H i σ) : EndsG H i σ r z := ⟨[], by rw [h, List.append_nil]; exact LX.fin_z _ _ _ _⟩
section
variable {W n i : Nat} {H : Hp} {σ : Sg}
theorem attr_at {K : Hp} (hi : i < K.length) (m : Nat) : attrV sg (K.set i (σ.adv m).dict) [97, 116] (.inst 147 i) = some (.int ((σ.a + m : Nat) : Int)) := by rw [← Sg.adv_a]; exact a_at hi
theorem attr_text {K : Hp} (hi : i < K.length) (m : Nat) : attrV sg (K.set i (σ.adv m).dict) [116, 101, 120, 116] (.inst 147 i) = some (.str σ.T) := (a_text hi).trans (by rw [Sg.adv_T])
theorem tw_cons {s ls : List Nat} (h : among (sgn s 0) ls = true) : ∃ c r, s = c :: r ∧ s.takeWhile ls.contains = c :: r.takeWhile ls.contains := by
  cases s with
  | nil => cases h
  | cons c r => exact ⟨c, r, rfl, List.takeWhile_cons_of_pos h⟩
theorem k_word (hi : i < H.length) (ok : σ.Ok) (hW : W = 1001) {r : LX} (h : rwF σ.s = some r) : ∃ G : Hp, FF W (n + 10) 25 [.inst 147 i] (H.set i σ.dict) = r.run (H ++ G) i σ := by
  rw [call_eq (n := n + 8) (fn := p_read_word) (m := [some (.inst 147 i), none, none, none, none, none]) _ rfl rfl]
  show EndsG H i σ r (execSs (FF W (n + 9)) GV sg W p_read_wordB _ _)
  have s0 := k_sign0 (W := W) (n := n + 7) hi ok
  have a0 := k_step1 (W := W) (n := n + 6) hi ok
  have am := fun ls => c_among (W := W) (n := n + 7) (H := H.set i σ.dict) (ls := ls) (sgn_len σ.s 0)
  have g2 : GV 2 = some (.str sSPC) := rfl
  have g0 : GV 0 = some g_KEYS := rfl
  have nl := fun H => c_names (W := W) (n := n + 7) (H := H)
  unfold rwF at h
  refine ends_skip (m1 := [some (.inst 147 i), some (.str (sgn σ.s 0)), none, none, none, none]) (H1 := H.set i σ.dict) (by repeat' (first | with_reducible exact s0 | k_updF)) ?_
  cases c0 : (sgn σ.s 0 == []) with
  | true =>
    rw [c0] at h; cases h
    refine ends_of (z := .ret (.tup [.str sEND, .str [], .none]) (H.set i σ.dict)) ?_ (ends_nil rfl)
    repeat' (first | with_reducible exact c0 | k_updF)
  | false =>
    rw [c0, cond_false] at h
    refine ends_skip (m1 := [some (.inst 147 i), some (.str (sgn σ.s 0)), none, none, none, none]) (H1 := H.set i σ.dict) (by repeat' (first | with_reducible exact c0 | k_updF)) ?_
    cases c1 : among (sgn σ.s 0) sSPC with
    | true =>
      rw [c1] at h; cases h
      refine ends_of (z := .ret (.tup [.str kSPEC, .str (sgn σ.s 0), .none]) (H.set i (σ.adv 1).dict)) ?_ (ends_nil rfl)
      repeat' (first | with_reducible exact g2 | with_reducible exact (am _) | with_reducible exact c1 | with_reducible exact a0 | k_updF)
    | false =>
      rw [c1, cond_false] at h
      refine ends_skip (m1 := [some (.inst 147 i), some (.str (sgn σ.s 0)), none, none, none, none]) (H1 := H.set i σ.dict) (by repeat' (first | with_reducible exact g2 | with_reducible exact (am _) | with_reducible exact c1 | k_updF)) ?_
      cases c2 : among (sgn σ.s 0) sDIG with
      | true =>
        rw [c2, cond_true] at h
        cases h7 : (sgn σ.s 1).all (· < 128) with
        | false => rw [h7] at h; cases h
        | true =>
          rw [h7] at h; cases h
          have rn := k_readnum (W := W) (n := n + 2) hi ok hW h7
          refine ends_of (z := .ret (.tup [.str kINT, .str (σ.s.take (rnF σ.s).2), .int (rnF σ.s).1]) (H.set i (σ.adv (rnF σ.s).2).dict)) ?_ (ends_nil rfl)
          repeat' (first | with_reducible exact g_dig | with_reducible exact (am _) | with_reducible exact c2 | with_reducible exact rn | with_reducible exact (attr_at hi _) | with_reducible exact (attr_text hi _) | with_reducible exact (slice_v ok _) | k_updF)
      | false =>
        rw [c2, cond_false] at h
        refine ends_skip (m1 := [some (.inst 147 i), some (.str (sgn σ.s 0)), none, none, none, none]) (H1 := H.set i σ.dict) (by repeat' (first | with_reducible exact g_dig | with_reducible exact (am _) | with_reducible exact c2 | k_updF)) ?_
        cases c3 : among (sgn σ.s 0) sSMALL with
        | true =>
          have tn := k_take (W := W) (n := n + 5) hi ok hW sNAME
          rw [c3] at h; cases h
          refine ends_of (z := .ret (.tup [.str (bif keysL.contains (σ.s.takeWhile sNAME.contains) then kKEY else sVAR), .str (σ.s.takeWhile sNAME.contains), .none]) (H.set i (σ.adv (twl sNAME σ.s)).dict)) ?_ (ends_nil rfl)
          cases hk : keysL.contains (σ.s.takeWhile sNAME.contains) with
          | true => repeat' (first | with_reducible exact g_small | with_reducible exact g0 | with_reducible exact (am _) | with_reducible exact c3 | with_reducible exact (nl _) | with_reducible exact tn | with_reducible exact (cInK _ _) | with_reducible exact hk | k_updF)
          | false => repeat' (first | with_reducible exact g_small | with_reducible exact g0 | with_reducible exact (am _) | with_reducible exact c3 | with_reducible exact (nl _) | with_reducible exact tn | with_reducible exact (cInK _ _) | with_reducible exact hk | k_updF)
        | false =>
          rw [c3, cond_false] at h
          refine ends_skip (m1 := [some (.inst 147 i), some (.str (sgn σ.s 0)), none, none, none, none]) (H1 := H.set i σ.dict) (by repeat' (first | with_reducible exact g_small | with_reducible exact (am _) | with_reducible exact c3 | k_updF)) ?_
          cases c4 : among (sgn σ.s 0) sGREAT with
          | true =>
            rw [c4] at h
            obtain ⟨l, e⟩ := k_great (W := W) (n := n + 1) hi ok hW h
            refine ends_of (z := r.z (H ++ [l]) i σ) ?_ ⟨[l], LX.fin_z _ _ _ _⟩
            repeat' (first | with_reducible exact g_great | with_reducible exact (am _) | with_reducible exact c4 | with_reducible exact e | with_reducible exact LX.run_q | with_reducible exact LX.z_then | k_updF)
          | false =>
            rw [c4, cond_false] at h
            refine ends_skip (m1 := [some (.inst 147 i), some (.str (sgn σ.s 0)), none, none, none, none]) (H1 := H.set i σ.dict) (by repeat' (first | with_reducible exact g_great | with_reducible exact (am _) | with_reducible exact c4 | k_updF)) ?_
            cases c5 : among (sgn σ.s 0) sSYM with
            | true =>
              rw [c5] at h; cases h
              have ts := k_take (W := W) (n := n + 5) hi ok hW sSYM
              obtain ⟨c, r, hs, hc⟩ := tw_cons c5
              have sk := fun H => c_symkind (W := W) (n := n + 7) (H := H) (c := c) (r := r.takeWhile sSYM.contains) (by
                have := σ.len ok
                rw [hs] at this
                exact Nat.le_trans (List.takeWhile_sublist _).length_le (Nat.le_trans (Nat.le_succ _) this))
              rw [← hc] at sk
              refine ends_of (z := .ret (.tup [.str (symKind (σ.s.takeWhile sSYM.contains)), .str (σ.s.takeWhile sSYM.contains), .none]) (H.set i (σ.adv (twl sSYM σ.s)).dict)) ?_ (ends_nil rfl)
              repeat' (first | with_reducible exact g_sym | with_reducible exact (am _) | with_reducible exact c5 | with_reducible exact ts | with_reducible exact (sk _) | k_updF)
            | false =>
              rw [c5, cond_false] at h
              refine ends_skip (m1 := [some (.inst 147 i), some (.str (sgn σ.s 0)), none, none, none, none]) (H1 := H.set i σ.dict) (by repeat' (first | with_reducible exact g_sym | with_reducible exact (am _) | with_reducible exact c5 | k_updF)) ?_
              refine ends_skip (m1 := [some (.inst 147 i), some (.str (sgn σ.s 0)), some (.int σ.a), none, none, none]) (H1 := H.set i σ.dict) (by repeat' (first | k_updF)) ?_
              cases c6 : (sgn σ.s 0 == [39]) with
              | true =>
                rw [c6] at h; cases h
                have rc := k_char (W := W) (n := n + 1) hi ok hW
                cases hr : rcF σ.s with
                | ok v m =>
                  rw [hr] at rc
                  change _ = Rs.ok v (H.set i (σ.adv m).dict) at rc
                  refine ends_of (z := .ret (.tup [.str kCHAR, .str (σ.s.take m), v]) (H.set i (σ.adv m).dict)) ?_ (ends_nil rfl)
                  repeat' (first | with_reducible exact c6 | with_reducible exact rc | with_reducible exact (attr_at hi _) | with_reducible exact (attr_text hi _) | with_reducible exact (slice_v ok _) | k_updF)
                | err d e =>
                  rw [hr] at rc
                  change _ = Rs.exc (σ.adv d).plc (H.set i (σ.adv e).dict) at rc
                  refine ends_of (z := .exc (σ.adv d).plc (H.set i (σ.adv e).dict)) ?_ (ends_nil rfl)
                  repeat' (first | with_reducible exact c6 | with_reducible exact rc | k_updF)
              | false =>
                rw [c6, cond_false] at h
                refine ends_skip (m1 := [some (.inst 147 i), some (.str (sgn σ.s 0)), some (.int σ.a), none, none, none]) (H1 := H.set i σ.dict) (by repeat' (first | with_reducible exact c6 | k_updF)) ?_
                cases c7 : (sgn σ.s 0 == [34]) with
                | true =>
                  rw [c7, cond_true] at h
                  cases hr : rtF σ.s with
                  | none => rw [hr] at h; cases h
                  | some t =>
                    rw [hr] at h; cases h
                    obtain ⟨l, rc⟩ := k_text (W := W) (n := n + 1) hi ok hW hr
                    have hiK : i < (H ++ [l]).length := hij hi
                    cases t with
                    | ok v m =>
                      change _ = Rs.ok v ((H ++ [l]).set i (σ.adv m).dict) at rc
                      refine ends_of (z := .ret (.tup [.str kTEXT, .str (σ.s.take m), v]) ((H ++ [l]).set i (σ.adv m).dict)) ?_ ⟨[l], rfl⟩
                      repeat' (first | with_reducible exact c7 | with_reducible exact rc | with_reducible exact (attr_at hiK _) | with_reducible exact (attr_text hiK _) | with_reducible exact (slice_v ok _) | k_updF)
                    | err d e =>
                      change _ = Rs.exc (σ.adv d).plc ((H ++ [l]).set i (σ.adv e).dict) at rc
                      refine ends_of (z := .exc (σ.adv d).plc ((H ++ [l]).set i (σ.adv e).dict)) ?_ ⟨[l], rfl⟩
                      repeat' (first | with_reducible exact c7 | with_reducible exact rc | k_updF)
                | false =>
                  rw [c7] at h; cases h
                  have pl := k_place (W := W) (n := n + 7) (σ := σ) hi
                  have lb : binV .add (.str [110, 111, 32, 119, 111, 114, 100, 32, 98, 101, 103, 105, 110, 115, 32, 119, 105, 116, 104, 32]) (.str (sgn σ.s 0)) = some (.str ([110, 111, 32, 119, 111, 114, 100, 32, 98, 101, 103, 105, 110, 115, 32, 119, 105, 116, 104, 32] ++ sgn σ.s 0)) := if_pos (Nat.le_trans (Nat.add_le_add_left (sgn_len _ _) 20) (by decide))
                  refine ends_of (z := .exc σ.plc (H.set i σ.dict)) ?_ (ends_nil rfl)
                  repeat' (first | with_reducible exact c7 | with_reducible exact lb | with_reducible exact pl | k_updF)
end
end
-- Q12
section
noncomputable def snL : Nat → List Nat → Int → Nat → Option LX
  | 0, _, _, _ => none
  | f + 1, s, d, k =>
    bif sgn s 0 == [] then some (.err 0 k)
    else bif s.take 2 == [123, 45] then (bif decide (d + 1 > 0) then snL f (s.drop 2) (d + 1) (k + 2) else some (.ok .none (k + 2)))
    else bif s.take 2 == [45, 125] then (bif decide (d + -1 > 0) then snL f (s.drop 2) (d + -1) (k + 2) else some (.ok .none (k + 2)))
    else (bif decide (d > 0) then snL f (s.drop 1) d (k + 1) else some (.ok .none (k + 1)))
noncomputable def snF (s : List Nat) : Option LX := snL 1000 s 0 0
noncomputable def nlen (s : List Nat) : Nat := (s.takeWhile fun c => c != 10).length
noncomputable def sbL : Nat → List Nat → Nat → Option LX
  | 0, _, _ => none
  | f + 1, s, k =>
    bif among (sgn s 0) sBL then sbL f (s.drop 1) (k + 1)
    else bif lineQ s then sbL f (s.drop (nlen s)) (k + nlen s)
    else bif s.take 2 == [123, 45] then (snF s).bind fun r => match r with
      | .err d e => some (.err (k + d) (k + e))
      | .ok _ n => sbL f (s.drop n) (k + n)
    else some (.ok .none k)
noncomputable def sbF (s : List Nat) : Option LX := sbL 1000 s 0
section
variable {W n i : Nat} {H : Hp} {σ : Sg}
noncomputable def snZ (H : Hp) (i : Nat) (σ : Sg) (r : LX) (z : Z) : Prop := match r with
  | .ok _ m => ∃ a b, z = .next [some (.inst 147 i), some σ.plc, a, b] (H.set i (σ.adv m).dict)
  | .err e1 e2 => z = .exc (σ.adv e1).plc (H.set i (σ.adv e2).dict)
theorem k_startsn (hi : i < H.length) (ok : σ.Ok) (k : Nat) (x : List Nat) (hx : x.length ≤ 1000) : FF W (n + 2) 3 [.inst 147 i, .str x] (H.set i (σ.adv k).dict) = .ok (.bool ((σ.s.drop k).take x.length == x)) (H.set i (σ.adv k).dict) := by
  have := k_starts (W := W) (n := n) hi (ok.adv k) x hx
  rw [Sg.adv_s] at this
  exact this
theorem nested_loop (hi : i < H.length) (ok : σ.Ok) : ∀ (f k : Nat) (d : Int) (r : LX), snL f (σ.s.drop k) d k = some r →
    snZ H i σ r (loopW (evalE (FF W (n + 3)) GV sg p_skip_nested_T1) (fun m H => execSs (FF W (n + 3)) GV sg W p_skip_nested_L1 m H) (f + 1)
        [some (.inst 147 i), some σ.plc, some (.int d), some (.bool true)] (H.set i (σ.adv k).dict))
  | 0, _, _, _, h => by cases h
  | f + 1, k, d, r, h => by
    have s0 := k_signn (W := W) (n := n + 1) hi ok k
    have a0 := k_stepn (W := W) (n := n) hi ok k
    have a1 := k_stepn (W := W) (n := n) hi ok (k + 1)
    have w1 : FF W (n + 3) 3 [.inst 147 i, .str [123, 45]] (H.set i (σ.adv k).dict) = .ok (.bool ((σ.s.drop k).take 2 == [123, 45])) (H.set i (σ.adv k).dict) := k_startsn (W := W) (n := n + 1) hi ok k [123, 45] (by decide)
    have w2 : FF W (n + 3) 3 [.inst 147 i, .str [45, 125]] (H.set i (σ.adv k).dict) = .ok (.bool ((σ.s.drop k).take 2 == [45, 125])) (H.set i (σ.adv k).dict) := k_startsn (W := W) (n := n + 1) hi ok k [45, 125] (by decide)
    replace h : (bif sgn (σ.s.drop k) 0 == [] then some (.err 0 k)
      else bif (σ.s.drop k).take 2 == [123, 45] then (bif decide (d + 1 > 0) then snL f ((σ.s.drop k).drop 2) (d + 1) (k + 2) else some (.ok .none (k + 2)))
      else bif (σ.s.drop k).take 2 == [45, 125] then (bif decide (d + -1 > 0) then snL f ((σ.s.drop k).drop 2) (d + -1) (k + 2) else some (.ok .none (k + 2)))
      else (bif decide (d > 0) then snL f ((σ.s.drop k).drop 1) d (k + 1) else some (.ok .none (k + 1)))) = some r := h
    rw [sgn_dd, List.drop_drop, List.drop_drop, Nat.add_zero] at h
    have fin2 : ∀ (d' : Int) (k' : Nat), (bif decide (d' > 0) then snL f (σ.s.drop k') d' k' else some (.ok .none k')) = some r →
        snZ H i σ r (loopW (evalE (FF W (n + 3)) GV sg p_skip_nested_T1) (fun m H => execSs (FF W (n + 3)) GV sg W p_skip_nested_L1 m H) (f + 1) [some (.inst 147 i), some σ.plc, some (.int d'), some (.bool (decide (d' > 0)))] (H.set i (σ.adv k').dict)) := by
      intro d' k' h
      cases hd : decide (d' > 0) with
      | true => rw [hd] at h; exact nested_loop hi ok f k' d' r h
      | false =>
        rw [hd] at h; cases h
        exact ⟨_, _, lw_end loc3⟩
    cases c0 : (sgn σ.s k == []) with
    | true =>
      rw [c0] at h; cases h
      refine lwX loc3 ?_
      repeat' (first | with_reducible exact s0 | with_reducible exact c0 | k_updF)
    | false =>
      rw [c0, cond_false] at h
      cases c1 : ((σ.s.drop k).take 2 == [123, 45]) with
      | true =>
        rw [c1] at h w1
        refine (lwS loc3 ?_).symm ▸ fin2 (d + 1) (k + 2) h
        repeat' (first | with_reducible exact s0 | with_reducible exact c0 | with_reducible exact w1 | with_reducible exact a0 | with_reducible exact a1 | k_updF)
      | false =>
        rw [c1, cond_false] at h
        rw [c1] at w1
        cases c2 : ((σ.s.drop k).take 2 == [45, 125]) with
        | true =>
          rw [c2] at h w2
          refine (lwS loc3 ?_).symm ▸ fin2 (d + -1) (k + 2) h
          repeat' (first | with_reducible exact s0 | with_reducible exact c0 | with_reducible exact w1 | with_reducible exact w2 | with_reducible exact a0 | with_reducible exact a1 | k_updF)
        | false =>
          rw [c2] at h w2
          refine (lwS loc3 ?_).symm ▸ fin2 d (k + 1) h
          repeat' (first | with_reducible exact s0 | with_reducible exact c0 | with_reducible exact w1 | with_reducible exact w2 | with_reducible exact a0 | with_reducible exact a1 | k_updF)
theorem k_nested (hi : i < H.length) (ok : σ.Ok) (hW : W = 1001) {r : LX} (h : snF σ.s = some r) : FF W (n + 4) 10 [.inst 147 i] (H.set i σ.dict) = match r with
    | .ok _ m => .ok .none (H.set i (σ.adv m).dict)
    | .err d e => .exc (σ.adv d).plc (H.set i (σ.adv e).dict) := by
  have pl := k_place (W := W) (n := n + 1) (σ := σ) hi
  have L := nested_loop (W := W) (n := n) hi ok 1000 0 0 r h
  have hW' : 1000 + 1 = W := hW.symm
  rw [hW'] at L
  cases r with
  | ok v m =>
    obtain ⟨a, b, L⟩ := L
    refine k_of (n := n + 2) (fn := p_skip_nested) (B := p_skip_nestedB) (m := [some (.inst 147 i), none, none, none]) rfl rfl rfl (x := .next [some (.inst 147 i), some σ.plc, a, b] (H.set i (σ.adv m).dict)) ?_ rfl
    repeat' (first | with_reducible exact pl | exact L | k_updF)
  | err d e =>
    refine k_of (n := n + 2) (fn := p_skip_nested) (B := p_skip_nestedB) (m := [some (.inst 147 i), none, none, none]) rfl rfl rfl (x := .exc (σ.adv d).plc (H.set i (σ.adv e).dict)) ?_ rfl
    repeat' (first | with_reducible exact pl | exact L | k_updF)
theorem nl_loop (hi : i < H.length) {a b : Option V} : ∀ (r : List Nat) (σ : Sg) (k : Nat), σ.s = r → σ.Ok → r.length < k →
    loopW (evalE (FF W (n + 3)) GV sg p_skip_between_T1) (fun m H => execSs (FF W (n + 3)) GV sg W p_skip_between_L1 m H) k [some (.inst 147 i), a, b] (H.set i σ.dict) = .next [some (.inst 147 i), a, b] (H.set i (σ.adv (nlen r)).dict)
  | [], σ, k + 1, hs, ok, _ => by
    have e := k_sign0 (W := W) (n := n + 1) hi ok
    rw [σ.sgn0_nil hs] at e
    refine lw_end (H1 := H.set i σ.dict) ?_
    repeat' (first | with_reducible exact e | with_reducible exact (cNin2 _ _) | k_updF)
  | c :: r, σ, k + 1, hs, ok, hk => by
    have e := k_sign0 (W := W) (n := n + 1) hi ok
    rw [σ.sgn0_cons hs] at e
    have ci : cmpV (H.set i σ.dict) .notin (.str [c]) (.tup [.str [], .str [10]]) = some (c != 10) := (cNin2 _ [c]).trans (by
      show some (!([c] == [10])) = _
      cases hc : (c == 10) with
      | true => rw [beq_iff_eq.mp hc]; rfl
      | false =>
        have : ([c] == [10]) = false := by rw [beq_eq_false_iff_ne] at hc ⊢; exact fun q => hc (List.cons.inj q).1
        rw [this, bne, hc])
    cases hc : (c != 10) with
    | false =>
      have hn : nlen (c :: r) = 0 := congrArg List.length (List.takeWhile_cons_of_neg (p := fun c => c != 10) (by rw [hc]; exact Bool.false_ne_true))
      rw [hn]
      rw [hc] at ci
      refine lw_end (H1 := H.set i σ.dict) ?_
      repeat' (first | with_reducible exact e | with_reducible exact ci | k_updF)
    | true =>
      have hn : nlen (c :: r) = nlen r + 1 := congrArg List.length (List.takeWhile_cons_of_pos (p := fun c => c != 10) hc)
      rw [hc] at ci
      have es := k_step (W := W) (n := n) hi ok
      rw [hn]
      refine (lwS ?_ ?_).trans (nl_loop hi r σ.stp k (σ.stp_cons hs) ok.stp (Nat.lt_of_succ_lt_succ hk))
      · repeat' (first | with_reducible exact e | with_reducible exact ci | k_updF)
      · repeat' (first | with_reducible exact es | k_updF)
noncomputable def sbZ (H : Hp) (i : Nat) (σ : Sg) (ln : Option V) (r : LX) (z : Z) : Prop := match r with
  | .ok _ m => z = .next [some (.inst 147 i), ln, some (.bool false)] (H.set i (σ.adv m).dict)
  | .err e1 e2 => z = .exc (σ.adv e1).plc (H.set i (σ.adv e2).dict)
theorem between_loop (hi : i < H.length) (ok : σ.Ok) (hW : W = 1001) {ln : Option V} : ∀ (f k : Nat) (r : LX), sbL f (σ.s.drop k) k = some r →
    sbZ H i σ ln r (loopW (evalE (FF W (n + 4)) GV sg p_skip_between_T2) (fun m H => execSs (FF W (n + 4)) GV sg W p_skip_between_L2 m H) (f + 1)
        [some (.inst 147 i), ln, some (.bool true)] (H.set i (σ.adv k).dict))
  | 0, _, _, h => by cases h
  | f + 1, k, r, h => by
    have s0 := k_signn (W := W) (n := n + 2) hi ok k
    have a0 := k_stepn (W := W) (n := n + 1) hi ok k
    have am : FF W (n + 4) 7 [.str (sgn σ.s k), .str [32, 9, 10, 13, 12, 11]] (H.set i (σ.adv k).dict) = .ok (.bool (among (sgn σ.s k) sBL)) (H.set i (σ.adv k).dict) := c_among (W := W) (n := n + 2) (H := H.set i (σ.adv k).dict) (ls := sBL) (sgn_len σ.s k)
    replace h : (bif among (sgn (σ.s.drop k) 0) sBL then sbL f ((σ.s.drop k).drop 1) (k + 1)
      else bif lineQ (σ.s.drop k) then sbL f ((σ.s.drop k).drop (nlen (σ.s.drop k))) (k + nlen (σ.s.drop k))
      else bif (σ.s.drop k).take 2 == [123, 45] then (snF (σ.s.drop k)).bind fun r => match r with
        | .err d e => some (.err (k + d) (k + e))
        | .ok _ n => sbL f ((σ.s.drop k).drop n) (k + n)
      else some (.ok .none k)) = some r := h
    rw [sgn_dd, List.drop_drop, List.drop_drop, Nat.add_zero] at h
    cases c0 : among (sgn σ.s k) sBL with
    | true =>
      rw [c0] at h
      refine (lwS loc2 ?_).symm ▸ between_loop hi ok hW f (k + 1) r h
      repeat' (first | with_reducible exact s0 | with_reducible exact am | with_reducible exact c0 | with_reducible exact a0 | k_updF)
    | false =>
      rw [c0, cond_false] at h
      have kl := k_line (W := W) (n := n + 1) hi (ok.adv k) hW
      rw [Sg.adv_s] at kl
      cases c1 : lineQ (σ.s.drop k) with
      | true =>
        rw [c1] at h
        have nl := nl_loop (W := W) (n := n + 1) hi (a := ln) (b := some (.bool true)) (σ.adv k).s (σ.adv k) W rfl (ok.adv k) (by have := (σ.adv k).len (ok.adv k); omega)
        rw [Sg.adv_s, Sg.adv_adv] at nl
        refine (lwS loc2 ?_).symm ▸ between_loop hi ok hW f (k + nlen (σ.s.drop k)) r h
        repeat' (first | with_reducible exact s0 | with_reducible exact am | with_reducible exact c0 | with_reducible exact kl | with_reducible exact c1 | with_reducible exact nl | k_updF)
      | false =>
        rw [c1, cond_false] at h
        have w1 : FF W (n + 4) 3 [.inst 147 i, .str [123, 45]] (H.set i (σ.adv k).dict) = .ok (.bool ((σ.s.drop k).take 2 == [123, 45])) (H.set i (σ.adv k).dict) := k_startsn (W := W) (n := n + 2) hi ok k [123, 45] (by decide)
        cases c2 : ((σ.s.drop k).take 2 == [123, 45]) with
        | true =>
          rw [c2, cond_true] at h
          cases hn : snF (σ.s.drop k) with
          | none => rw [hn] at h; cases h
          | some t =>
            rw [hn] at h
            rw [← Sg.adv_s] at hn
            have nn := k_nested (W := W) (n := n) hi (ok.adv k) hW hn
            cases t with
            | err d e =>
              cases h
              replace nn : _ = Rs.exc ((σ.adv k).adv d).plc (H.set i ((σ.adv k).adv e).dict) := nn
              rw [Sg.adv_adv, Sg.adv_adv] at nn
              refine lwX loc2 ?_
              repeat' (first | with_reducible exact s0 | with_reducible exact am | with_reducible exact c0 | with_reducible exact kl | with_reducible exact c1 | with_reducible exact w1 | with_reducible exact c2 | with_reducible exact nn | k_updF)
            | ok v m =>
              replace nn : _ = Rs.ok V.none (H.set i ((σ.adv k).adv m).dict) := nn
              rw [Sg.adv_adv] at nn
              replace h : sbL f ((σ.s.drop k).drop m) (k + m) = some r := h
              rw [List.drop_drop] at h
              refine (lwS loc2 ?_).symm ▸ between_loop hi ok hW f (k + m) r h
              repeat' (first | with_reducible exact s0 | with_reducible exact am | with_reducible exact c0 | with_reducible exact kl | with_reducible exact c1 | with_reducible exact w1 | with_reducible exact c2 | with_reducible exact nn | k_updF)
        | false =>
          rw [c2] at h
          cases h
          refine (lwS loc2 ?_).trans (lw_end loc2)
          repeat' (first | with_reducible exact s0 | with_reducible exact am | with_reducible exact c0 | with_reducible exact kl | with_reducible exact c1 | with_reducible exact w1 | with_reducible exact c2 | k_updF)
theorem k_between (hi : i < H.length) (ok : σ.Ok) (hW : W = 1001) {r : LX} (h : sbF σ.s = some r) : FF W (n + 5) 11 [.inst 147 i] (H.set i σ.dict) = match r with
    | .ok _ m => .ok (.bool (decide ((σ.adv m).l > σ.l))) (H.set i (σ.adv m).dict)
    | .err d e => .exc (σ.adv d).plc (H.set i (σ.adv e).dict) := by
  have L := between_loop (W := W) (n := n) hi ok hW (ln := some (.int σ.l)) 1000 0 r h
  have hW' : 1000 + 1 = W := hW.symm
  rw [hW'] at L
  cases r with
  | ok v m =>
    refine k_of (n := n + 3) (fn := p_skip_between) (B := p_skip_betweenB) (m := [some (.inst 147 i), none, none]) rfl rfl rfl (x := .ret (.bool (decide ((σ.adv m).l > σ.l))) (H.set i (σ.adv m).dict)) ?_ rfl
    repeat' (first | exact L | k_updF)
  | err d e =>
    refine k_of (n := n + 3) (fn := p_skip_between) (B := p_skip_betweenB) (m := [some (.inst 147 i), none, none]) rfl rfl rfl (x := .exc (σ.adv d).plc (H.set i (σ.adv e).dict)) ?_ rfl
    repeat' (first | exact L | k_updF)
end
end
-- Q13
section
open PySem
structure Rec where
  kd : List Nat
  tx : List Nat
  v : V
  l : Int
  c : Int
  f : Bool
noncomputable def Rec.dict (r : Rec) : O := .dict [([107, 105, 110, 100], .str r.kd), ([116, 101, 120, 116], .str r.tx), ([108, 105, 110, 101], .int r.l), ([99, 111, 108, 117, 109, 110], .int r.c), ([118, 97, 108, 117, 101], r.v), ([105, 115, 95, 102, 105, 114, 115, 116], .bool r.f)]
noncomputable def Rec.tup (r : Rec) : V := .tup [.str r.kd, .str r.tx, r.v, .int r.l, .int r.c, .bool r.f]
inductive WR where
  | ok (recs : List Rec)
  | err (l c : Int)
noncomputable def wlL : Nat → Sg → Bool → List Rec → Option WR
  | 0, _, _, _ => none
  | f + 1, σ, first, acc => match sbF σ.s with
    | none => none
    | some (.err d e) => some (.err (σ.adv d).l (σ.adv d).c)
    | some (.ok _ m) => match rwF (σ.s.drop m) with
      | none => none
      | some (.err d e) => some (.err (σ.adv (m + d)).l (σ.adv (m + d)).c)
      | some (.ok v k) => match v with
        | .tup [.str kd, .str tx, val] =>
          if noGlob val = true ∧ acc.length < 1000 then
            (if kd == sEND then some (.ok (acc ++ [⟨kd, tx, val, (σ.adv m).l, (σ.adv m).c, decide ((σ.adv m).l > σ.l) || first⟩]))
             else wlL f (σ.adv (m + k)) false (acc ++ [⟨kd, tx, val, (σ.adv m).l, (σ.adv m).c, decide ((σ.adv m).l > σ.l) || first⟩]))
          else none
        | _ => none
theorem ini {C : Addr} {H : Hp} {kvs : List (List Nat × V)} {f : List Nat} {v : V} (hf : sg.own C f = true) (hl : kvs.length < 100) : setAttrV sg (H ++ [.dict kvs]) (.inst C H.length) f v = some (H ++ [.dict (kvSet kvs f v)]) :=
  (setat_of (kvs := kvs) hf (by rw [List.getElem?_append_right (Nat.le_refl _), Nat.sub_self]; rfl) hl).trans (by rw [List.set_append_right _ _ (Nat.le_refl _), Nat.sub_self]; rfl)
theorem k_signsinit {W n : Nat} (H : Hp) (T : List Nat) : FF W (n + 2) 1 [.inst 147 H.length, .str T] (H ++ [.dict []]) = .ok .none (H ++ [Sg.dict ⟨T, 0, 1, 1⟩]) := by
  refine k_of (n := n) (fn := p_SignsInit) (B := p_SignsInitB) (m := [some (.inst 147 H.length), some (.str T)]) rfl rfl rfl (x := .next [some (.inst 147 H.length), some (.str T)] (H ++ [Sg.dict ⟨T, 0, 1, 1⟩])) ?_ rfl
  repeat' (first | exact (ini (by rfl) (by exact Nat.le_of_ble_eq_true rfl)) | k_updF)
theorem k_wordinit {W n : Nat} (H : Hp) (r : Rec) : FF W (n + 2) 0 [.inst 90 H.length, .str r.kd, .str r.tx, .int r.l, .int r.c, r.v, .bool r.f] (H ++ [.dict []]) = .ok .none (H ++ [r.dict]) := by
  refine k_of (n := n) (fn := p_WordInit) (B := p_WordInitB) (m := [some (.inst 90 H.length), some (.str r.kd), some (.str r.tx), some (.int r.l), some (.int r.c), some r.v, some (.bool r.f)]) rfl rfl rfl (x := .next [some (.inst 90 H.length), some (.str r.kd), some (.str r.tx), some (.int r.l), some (.int r.c), some r.v, some (.bool r.f)] (H ++ [r.dict])) ?_ rfl
  repeat' (first | exact (ini (by rfl) (by exact Nat.le_of_ble_eq_true rfl)) | k_updF)
structure WI (B K : Hp) (i j : Nat) (refs : List Nat) (recs : List Rec) : Prop where
  bi : B.length ≤ i
  bj : B.length ≤ j
  fr : ∀ x, x < B.length → K[x]? = B[x]?
  hi : i < K.length
  hj : j < K.length
  ne : i ≠ j
  lst : K[j]? = some (.list (refs.map fun a => .inst 90 a))
  len : refs.length = recs.length
  all : ∀ (p a : Nat) (r : Rec), refs[p]? = some a → recs[p]? = some r → a ≠ i ∧ a ≠ j ∧ K[a]? = some r.dict ∧ noGlob r.v = true
theorem WI.grow {B K : Hp} {i j : Nat} {refs : List Nat} {recs : List Rec} (w : WI B K i j refs recs) (G : Hp) : WI B (K ++ G) i j refs recs where
  bi := w.bi
  bj := w.bj
  fr := fun x hx => by rw [List.getElem?_append_left (by have := w.bi; have := w.hi; omega)]; exact w.fr x hx
  hi := by rw [List.length_append]; have := w.hi; omega
  hj := by rw [List.length_append]; have := w.hj; omega
  ne := w.ne
  lst := by rw [List.getElem?_append_left w.hj]; exact w.lst
  len := w.len
  all := fun p a r h1 h2 => by
    obtain ⟨x, y, z, t⟩ := w.all p a r h1 h2
    refine ⟨x, y, ?_, t⟩
    rw [List.getElem?_append_left (List.getElem?_eq_some_iff.mp z).1]; exact z
theorem WI.add {B K : Hp} {i j : Nat} {refs : List Nat} {recs : List Rec} (w : WI B K i j refs recs) (r : Rec) (hv : noGlob r.v = true) :
    WI B ((K ++ [r.dict]).set j (.list ((refs ++ [K.length]).map fun a => .inst 90 a))) i j (refs ++ [K.length]) (recs ++ [r]) where
  bi := w.bi
  bj := w.bj
  fr := fun x hx => by rw [List.getElem?_set_ne (by have := w.bj; omega), List.getElem?_append_left (by have := w.bi; have := w.hi; omega)]; exact w.fr x hx
  hi := by simp; have := w.hi; omega
  hj := by simp; have := w.hj; omega
  ne := w.ne
  lst := by rw [List.getElem?_set_self (by simp; have := w.hj; omega)]
  len := by simp [w.len]
  all := fun p a r' h1 h2 => by
    rcases Nat.lt_or_ge p refs.length with hp | hp
    · rw [List.getElem?_append_left hp] at h1
      rw [List.getElem?_append_left (by rw [← w.len]; exact hp)] at h2
      obtain ⟨x, y, z, t⟩ := w.all p a r' h1 h2
      refine ⟨x, y, ?_, t⟩
      rw [List.getElem?_set_ne (Ne.symm y), List.getElem?_append_left (List.getElem?_eq_some_iff.mp z).1]; exact z
    · rw [List.getElem?_append_right hp] at h1
      rw [List.getElem?_append_right (by rw [← w.len]; exact hp)] at h2
      cases hq : p - refs.length with
      | succ q => rw [hq] at h1; simp at h1
      | zero =>
        rw [hq] at h1
        rw [← w.len, hq] at h2
        cases h1; cases h2
        refine ⟨by have := w.hi; omega, by have := w.hj; omega, ?_, hv⟩
        rw [List.getElem?_set_ne (by have := w.hj; omega), List.getElem?_append_right (Nat.le_refl _), Nat.sub_self]; rfl
section
variable {W n i j : Nat} {B K : Hp} {refs : List Nat} {recs : List Rec}
theorem WI.lst' (w : WI B K i j refs recs) (d : O) : (K.set i d)[j]? = some (.list (refs.map fun a => .inst 90 a)) := by
  rw [List.getElem?_set_ne w.ne]; exact w.lst
theorem WI.at' (w : WI B K i j refs recs) (d : O) {p a : Nat} {r : Rec} (h1 : refs[p]? = some a) (h2 : recs[p]? = some r) : (K.set i d)[a]? = some r.dict := by
  obtain ⟨x, _, z, _⟩ := w.all p a r h1 h2
  rw [List.getElem?_set_ne (Ne.symm x)]; exact z
theorem kind_of {H : Hp} {a : Nat} {r : Rec} (h : H[a]? = some r.dict) : attrV sg H [107, 105, 110, 100] (.inst 90 a) = some (.str r.kd) := attr_of rfl h rfl
noncomputable def tstQ (l : List Rec) : Bool := match l.getLast? with
  | none => true
  | some r => !(r.kd == sEND)
theorem words_test (w : WI B K i j refs recs) (d : O) {x0 x1 x3 x4 x5 x6 x7 x8 : Option V} (hb : recs.length ≤ 1000) :
    evalE (FF W n) GV sg p_words_of_T1 [x0, x1, some (.obj j), x3, x4, x5, x6, x7, x8] (K.set i d) = .ok (.bool (tstQ recs)) (K.set i d) := by
  have l := w.lst' d
  have e1 : cmpV (K.set i d) .eq (.obj j) (.lst []) = some (refs.map (fun a => V.inst 90 a)).isEmpty := by
    show listO (fun vs => some vs.isEmpty) (K.set i d)[j]? = _
    rw [l]; rfl
  rcases List.eq_nil_or_concat recs with e | ⟨rs, r, e⟩
  · subst e
    have : refs = [] := List.eq_nil_of_length_eq_zero w.len
    subst this
    show _ = Rs.ok (V.bool true) _
    repeat' (first | exact e1 | k_updF)
  · rw [List.concat_eq_append] at e
    subst e
    have hl : refs.length = rs.length + 1 := by have := w.len; rwa [List.length_append] at this
    have hb' : rs.length + 1 ≤ 1000 := by rwa [List.length_append] at hb
    obtain ⟨a, ha⟩ : ∃ a, refs[rs.length]? = some a := ⟨_, List.getElem?_eq_getElem (by omega)⟩
    have hr : (rs ++ [r])[rs.length]? = some r := by rw [List.getElem?_append_right (Nat.le_refl _), Nat.sub_self]; rfl
    have ka := kind_of (w.at' d ha hr)
    have ne : (refs.map (fun a => V.inst 90 a)).isEmpty = false := by
      cases refs with
      | nil => cases hl
      | cons _ _ => rfl
    rw [ne] at e1
    have ix : idxV (K.set i d) (.obj j) (.int (-1)) = some (.inst 90 a) := by
      show idxO (K.set i d)[j]? _ = _
      rw [l]
      show seqAt _ _ = _
      unfold seqAt
      rw [if_pos (by rw [List.length_map, hl]; exact Nat.le_trans hb' (by decide)), if_neg (by omega), if_pos (by rw [List.length_map]; omega)]
      rw [List.length_map, hl, show (-1 + ((rs.length + 1 : Nat) : Int)).toNat = rs.length by omega, List.getElem?_map, ha]; rfl
    have tq : tstQ (rs ++ [r]) = !(r.kd == sEND) := by unfold tstQ; rw [List.getLast?_append]; rfl
    rw [tq]
    repeat' (first | with_reducible exact e1 | with_reducible exact ix | with_reducible exact ka | k_updF)
end
end
-- Q14
section
open PySem
theorem bind_exc_asg {F : Fns} {G : Nat → Option V} {sg : Sig} {W : Nat} {m : Loc} {H H1 : Hp} {p : V} {e : Ex} {i : Nat} {ss : Sxs} (h : evalE F G sg e m H = .exc p H1) : execSs F G sg W (.cons (.asg i e) ss) m H = .exc p H1 := s_cons (s_asg h rfl) rfl
theorem bind_exc_asgU {F : Fns} {G : Nat → Option V} {sg : Sig} {W : Nat} {m : Loc} {H H1 : Hp} {p : V} {e : Ex} {ts : List Tg} {ss : Sxs} (h : evalE F G sg e m H = .exc p H1) : execSs F G sg W (.cons (.asgU ts e) ss) m H = .exc p H1 := s_cons (s_asgU h rfl) rfl
section
variable {W n i j : Nat} {B : Hp}
noncomputable def wlZ (B : Hp) (i j : Nat) (r : WR) (z : Z) : Prop := match r with
  | .ok recs => recs.length ≤ 1001 ∧ ∃ K' refs' τ y0 y1 y3 y4 y5 y6 y7 y8, WI B K' i j refs' recs ∧ z = .next [y0, y1, some (.obj j), y3, y4, y5, y6, y7, y8] (K'.set i (Sg.dict τ))
  | .err l c => ∃ K' refs' recs' τ, WI B K' i j refs' recs' ∧ z = .exc (.tup [.int l, .int c]) (K'.set i (Sg.dict τ))
theorem last_snoc {α : Type} (l : List α) (x : α) : (l ++ [x]).getLast? = some x := by rw [List.getLast?_append]; rfl
theorem words_loop (hW : W = 1001) : ∀ (f : Nat) (σ : Sg) (first : Bool) (K : Hp) (refs : List Nat) (acc : List Rec) (r : WR) (x0 x4 x5 x6 x7 x8 : Option V), WI B K i j refs acc → σ.Ok → acc.length ≤ 1000 →
    (∀ rc, acc.getLast? = some rc → (rc.kd == sEND) = false) → wlL f σ first acc = some r →
    wlZ B i j r (loopW (evalE (FF W (n + 10)) GV sg p_words_of_T1) (fun m H => execSs (FF W (n + 10)) GV sg W p_words_of_L1 m H) (f + 1) [x0, some (.inst 147 i), some (.obj j), some (.bool first), x4, x5, x6, x7, x8] (K.set i σ.dict))
  | 0, _, _, _, _, _, _, _, _, _, _, _, _, _, _, _, _, h => by cases h
  | f + 1, σ, first, K, refs, acc, r, x0, x4, x5, x6, x7, x8, w, ok, hl, he, h => by
    have ht := words_test (W := W) (n := n + 10) w σ.dict (x0 := x0) (x1 := some (.inst 147 i)) (x3 := some (.bool first)) (x4 := x4) (x5 := x5) (x6 := x6) (x7 := x7) (x8 := x8) hl
    have htt : tstQ acc = true := by
      unfold tstQ
      cases hq : acc.getLast? with
      | none => rfl
      | some rc => show (!(rc.kd == sEND)) = true; rw [he rc hq]; rfl
    rw [htt] at ht
    have hi := w.hi
    rw [wlL] at h
    cases hb : sbF σ.s with
    | none => rw [hb] at h; cases h
    | some b =>
      rw [hb] at h
      have kb := k_between (W := W) (n := n + 5) hi ok hW hb
      cases b with
      | err d e =>
        cases h
        replace kb : _ = Rs.exc (V.tup [.int (σ.adv d).l, .int (σ.adv d).c]) (K.set i (σ.adv e).dict) := kb
        refine ⟨K, refs, acc, σ.adv e, w, lwX ht ?_⟩
        exact bind_exc_asg (bind_ex (r_call (r_cons loc1 r_nil) kb))
      | ok v m =>
        replace kb : _ = Rs.ok (V.bool (decide ((σ.adv m).l > σ.l))) (K.set i (σ.adv m).dict) := kb
        have pl : FF W (n + 10) 6 [.inst 147 i] (K.set i (σ.adv m).dict) = .ok (.tup [.int (σ.adv m).l, .int (σ.adv m).c]) (K.set i (σ.adv m).dict) := k_place (W := W) (n := n + 8) (H := K) (σ := σ.adv m) hi
        cases hr : rwF (σ.s.drop m) with
        | none => dsimp only at h; rw [hr] at h; cases h
        | some t =>
          dsimp only at h
          rw [hr] at h
          rw [← Sg.adv_s] at hr
          obtain ⟨G, kw⟩ := k_word (W := W) (n := n) hi (ok.adv m) hW hr
          have pre : ∀ z, execSs (FF W (n + 10)) GV sg W (.cons (.asgU [.loc 6, .loc 7, .loc 8] (.call 25 (.cons (.loc 1) .nil)))   (.cons (.expr (.append (.loc 2) (.new 0 (.cons (.loc 6) (.cons (.loc 7) (.cons (.loc 4) (.cons (.loc 5) (.cons (.loc 8) (.cons (.loc 3) .nil)))))))))   (.cons (.asg 3 (.lit (.bool false)))   .nil))) [x0, some (.inst 147 i), some (.obj j), some (.bool (decide ((σ.adv m).l > σ.l) || first)), some (.int (σ.adv m).l), some (.int (σ.adv m).c), x6, x7, x8] (K.set i (σ.adv m).dict) = z → execSs (FF W (n + 10)) GV sg W p_words_of_L1 [x0, some (.inst 147 i), some (.obj j), some (.bool first), x4, x5, x6, x7, x8] (K.set i σ.dict) = z := fun z hz => by
            cases hv : decide ((σ.adv m).l > σ.l) with
            | true =>
              rw [hv] at kb hz
              rw [Bool.true_or] at hz
              repeat' (first | with_reducible exact kb | with_reducible exact pl | with_reducible exact hz | k_updF)
            | false =>
              rw [hv] at kb hz
              rw [Bool.false_or] at hz
              repeat' (first | with_reducible exact kb | with_reducible exact pl | with_reducible exact hz | k_updF)
          cases t with
          | err d e =>
            cases h
            replace kw : _ = Rs.exc ((σ.adv m).adv d).plc ((K ++ G).set i ((σ.adv m).adv e).dict) := kw
            rw [Sg.adv_adv, Sg.adv_adv] at kw
            refine ⟨K ++ G, refs, acc, σ.adv (m + e), w.grow G, lwX ht (pre _ ?_)⟩
            exact bind_exc_asgU (r_call (r_cons loc1 r_nil) kw)
          | ok v k =>
            replace kw : _ = Rs.ok v ((K ++ G).set i ((σ.adv m).adv k).dict) := kw
            rw [Sg.adv_adv] at kw
            dsimp only at h
            split at h
            · rename_i kd tx val
              by_cases hc : noGlob val = true ∧ acc.length < 1000
              · rw [if_pos hc] at h
                generalize hfs : (decide ((σ.adv m).l > σ.l) || first) = fs at h pre
                have w2 := (w.grow G).add ⟨kd, tx, val, (σ.adv m).l, (σ.adv m).c, fs⟩ hc.1
                generalize hK2 : ((K ++ G ++ [Rec.dict ⟨kd, tx, val, (σ.adv m).l, (σ.adv m).c, fs⟩]).set j (.list ((refs ++ [(K ++ G).length]).map fun a => .inst 90 a))) = K2 at w2
                have wg := w.grow G
                have gj1 := wg.lst' (σ.adv (m + k)).dict
                have il : isListV ((K ++ G).set i (σ.adv (m + k)).dict) (.obj j) = true := by
                  show (match ((K ++ G).set i (σ.adv (m + k)).dict)[j]? with | some (.list _) => true | _ => false) = true
                  rw [gj1]
                have wi := k_wordinit (W := W) (n := n + 8) ((K ++ G).set i (σ.adv (m + k)).dict) ⟨kd, tx, val, (σ.adv m).l, (σ.adv m).c, fs⟩
                have ap : appendV ((K ++ G).set i (σ.adv (m + k)).dict ++ [Rec.dict ⟨kd, tx, val, (σ.adv m).l, (σ.adv m).c, fs⟩]) (.obj j) (.inst 90 ((K ++ G).set i (σ.adv (m + k)).dict).length) = .ok .none (K2.set i (σ.adv (m + k)).dict) := by
                  show (match ((K ++ G).set i (σ.adv (m + k)).dict ++ [Rec.dict ⟨kd, tx, val, (σ.adv m).l, (σ.adv m).c, fs⟩])[j]? with | some (.list us) => (if us.length < big then Rs.ok V.none (((K ++ G).set i (σ.adv (m + k)).dict ++ [Rec.dict ⟨kd, tx, val, (σ.adv m).l, (σ.adv m).c, fs⟩]).set j (.list (us ++ [V.inst 90 ((K ++ G).set i (σ.adv (m + k)).dict).length]))) else .stuck) | _ => .stuck) = _
                  rw [List.getElem?_append_left (by rw [List.length_set]; exact wg.hj), gj1]
                  refine (if_pos (by rw [List.length_map, w.len]; exact Nat.lt_of_le_of_lt hl (by decide))).trans ?_
                  rw [aj wg.hi, List.set_comm _ _ w.ne, ← hK2, List.length_set, List.map_append]; rfl
                generalize hM : (K ++ G).set i (σ.adv (m + k)).dict = M at *
                have hbd := pre (.next [x0, some (.inst 147 i), some (.obj j), some (.bool false), some (.int (σ.adv m).l), some (.int (σ.adv m).c), some (.str kd), some (.str tx), some val] (K2.set i (σ.adv (m + k)).dict)) (by repeat' (first | with_reducible exact kw | with_reducible exact il | exact wi | exact ap | k_updF))
                have hl2 : (acc ++ [(⟨kd, tx, val, (σ.adv m).l, (σ.adv m).c, fs⟩ : Rec)]).length ≤ 1000 := by rw [List.length_append]; exact hc.2
                cases hk : (kd == sEND) with
                | true =>
                  rw [hk, if_pos rfl] at h
                  cases h
                  have ht2 := words_test (W := W) (n := n + 10) w2 (σ.adv (m + k)).dict (x0 := x0) (x1 := some (.inst 147 i)) (x3 := some (.bool false)) (x4 := some (.int (σ.adv m).l)) (x5 := some (.int (σ.adv m).c)) (x6 := some (.str kd)) (x7 := some (.str tx)) (x8 := some val) hl2
                  have tq : tstQ (acc ++ [(⟨kd, tx, val, (σ.adv m).l, (σ.adv m).c, fs⟩ : Rec)]) = false := by
                    unfold tstQ
                    rw [last_snoc]
                    show (!(kd == sEND)) = false
                    rw [hk]; rfl
                  rw [tq] at ht2
                  exact ⟨Nat.le_succ_of_le hl2, K2, _, σ.adv (m + k), _, _, _, _, _, _, _, _, w2, (lwS ht hbd).trans (lw_end ht2)⟩
                | false =>
                  rw [hk, if_neg Bool.false_ne_true] at h
                  exact (lwS ht hbd).symm ▸ words_loop hW f (σ.adv (m + k)) false K2 _ _ r x0 (some (.int (σ.adv m).l)) (some (.int (σ.adv m).c)) (some (.str kd)) (some (.str tx)) (some val) w2 (ok.adv _) hl2 (fun rc hrc => by
                    rw [last_snoc] at hrc
                    cases hrc; exact hk) h
              · rw [if_neg hc] at h; cases h
            · cases h
noncomputable def wlF (T : List Nat) : Option WR := wlL 1000 ⟨T, 0, 1, 1⟩ true []
theorem k_words (hW : W = 1001) {T : List Nat} (hT : T.length ≤ 1000) {r : WR} (h : wlF T = some r) :
    match r with
    | .ok recs => recs.length ≤ 1001 ∧ ∃ K' refs' τ, WI B K' B.length (B.length + 1) refs' recs ∧ FF W (n + 11) 26 [.str T] B = .ok (.obj (B.length + 1)) (K'.set B.length (Sg.dict τ))
    | .err l c => ∃ K' refs' recs' τ, WI B K' B.length (B.length + 1) refs' recs' ∧ FF W (n + 11) 26 [.str T] B = .exc (.tup [.int l, .int c]) (K'.set B.length (Sg.dict τ)) := by
  have si := k_signsinit (W := W) (n := n + 8) B T
  have w0 : WI B (B ++ [Sg.dict ⟨T, 0, 1, 1⟩, .list []]) B.length (B.length + 1) [] [] :=
    { bi := Nat.le_refl _, bj := Nat.le_succ _, fr := fun x hx => List.getElem?_append_left hx, hi := by rw [List.length_append]; exact Nat.lt_add_of_pos_right (Nat.zero_lt_succ _), hj := by rw [List.length_append]; exact Nat.add_lt_add_left (Nat.succ_lt_succ (Nat.zero_lt_succ _)) _, ne := Nat.ne_of_lt (Nat.lt_succ_self _),
      lst := by rw [List.getElem?_append_right (Nat.le_succ _), show B.length.succ - B.length = 1 from Nat.add_sub_cancel_left B.length 1]; rfl, len := rfl, all := fun p a r h1 => nomatch h1 }
  have L := words_loop (W := W) (n := n) hW 1000 ⟨T, 0, 1, 1⟩ true _ [] [] r (some (.str T)) none none none none none w0 ⟨hT⟩ (Nat.zero_le _) (fun rc h => nomatch h) h
  have hW' : 1000 + 1 = W := hW.symm
  have es : (B ++ [Sg.dict ⟨T, 0, 1, 1⟩, O.list []]).set B.length (Sg.dict ⟨T, 0, 1, 1⟩) = B ++ [Sg.dict ⟨T, 0, 1, 1⟩] ++ [O.list []] := by
    rw [List.set_append_right _ _ (Nat.le_refl _), Nat.sub_self, List.append_assoc]; rfl
  have el : (B ++ [Sg.dict ⟨T, 0, 1, 1⟩]).length = B.length + 1 := by rw [List.length_append]; rfl
  have ml : ∀ m, evalE (FF W (n + 10)) GV sg (.mlst .nil) m (B ++ [Sg.dict ⟨T, 0, 1, 1⟩]) = .ok (.obj (B.length + 1)) (B ++ [Sg.dict ⟨T, 0, 1, 1⟩] ++ [O.list []]) := fun m => by rw [← el]; exact r_mlst r_nil
  rw [es, hW'] at L
  cases r with
  | ok recs =>
    obtain ⟨hr, K', refs', τ, y0, y1, y3, y4, y5, y6, y7, y8, wk, L⟩ := L
    refine ⟨hr, K', refs', τ, wk, ?_⟩
    refine k_of (n := n + 9) (fn := p_words_of) (B := p_words_ofB) (m := [some (.str T), none, none, none, none, none, none, none, none]) rfl rfl rfl (x := .ret (.obj (B.length + 1)) (K'.set B.length (Sg.dict τ))) ?_ rfl
    repeat' (first | with_reducible exact si | with_reducible exact (ml _) | with_reducible exact L | k_updF)
  | err l c =>
    obtain ⟨K', refs', recs', τ, wk, L⟩ := L
    refine ⟨K', refs', recs', τ, wk, ?_⟩
    refine k_of (n := n + 9) (fn := p_words_of) (B := p_words_ofB) (m := [some (.str T), none, none, none, none, none, none, none, none]) rfl rfl rfl (x := .exc (.tup [.int l, .int c]) (K'.set B.length (Sg.dict τ))) ?_ rfl
    repeat' (first | with_reducible exact si | with_reducible exact (ml _) | with_reducible exact L | k_updF)
noncomputable def toldV (r : WR) : V := match r with
  | .ok recs => .lst (recs.map Rec.tup)
  | .err l c => .tup [.int l, .int c]
noncomputable abbrev p_told_elt : Ex := (.tup (.cons (.attr (.loc 0) [107, 105, 110, 100]) (.cons (.attr (.loc 0) [116, 101, 120, 116]) (.cons (.attr (.loc 0) [118, 97, 108, 117, 101]) (.cons (.attr (.loc 0) [108, 105, 110, 101]) (.cons (.attr (.loc 0) [99, 111, 108, 117, 109, 110]) (.cons (.attr (.loc 0) [105, 115, 95, 102, 105, 114, 115, 116]) .nil)))))))
theorem elt_ok {F : Fns} {H : Hp} {a : Nat} {r : Rec} (h : H[a]? = some r.dict) (hv : noGlob r.v = true) : evalE F GV sg p_told_elt [some (.inst 90 a)] H = .ok r.tup H := by
  have a1 := kind_of h
  have a2 : attrV sg H [116, 101, 120, 116] (.inst 90 a) = some (.str r.tx) := attr_of rfl h rfl
  have a3 : attrV sg H [118, 97, 108, 117, 101] (.inst 90 a) = some r.v := attr_of rfl h (if_pos hv)
  have a4 : attrV sg H [108, 105, 110, 101] (.inst 90 a) = some (.int r.l) := attr_of rfl h rfl
  have a5 : attrV sg H [99, 111, 108, 117, 109, 110] (.inst 90 a) = some (.int r.c) := attr_of rfl h rfl
  have a6 : attrV sg H [105, 115, 95, 102, 105, 114, 115, 116] (.inst 90 a) = some (.bool r.f) := attr_of rfl h rfl
  show _ = Rs.ok (V.tup [.str r.kd, .str r.tx, r.v, .int r.l, .int r.c, .bool r.f]) H
  repeat' (first | with_reducible exact a1 | with_reducible exact a2 | with_reducible exact a3 | with_reducible exact a4 | with_reducible exact a5 | with_reducible exact a6 | k_updF)
theorem comp_at {f : V → Hp → Rs V} {v : V} {k p : Nat} {H H1 H2 : Hp} {vs : List V} {x b : V} {bs : List V} (hv : itemsV H v = some vs) (hx : vs[p]? = some x) (h1 : f x H = .ok b H1) (h2 : compR f v k (p + 1) H1 = .ok bs H2) : compR f v (k + 1) p H = .ok (b :: bs) H2 := by
  show (match itemsV H v with | some vs => (match vs[p]? with | some x => (f x H).only fun b H1 => (compR f v k (p + 1) H1).only fun bs H2 => .ok (b :: bs) H2 | none => .ok [] H) | none => .stuck) = _
  rw [hv]
  show (match vs[p]? with | some x => (f x H).only fun b H1 => (compR f v k (p + 1) H1).only fun bs H2 => .ok (b :: bs) H2 | none => .ok [] H) = _
  rw [hx]
  show (f x H).only _ = _
  rw [h1]
  show (compR f v k (p + 1) H1).only _ = _
  rw [h2]; rfl
theorem comp_end {f : V → Hp → Rs V} {v : V} {k p : Nat} {H : Hp} {vs : List V} (hv : itemsV H v = some vs) (hx : vs[p]? = none) : compR f v (k + 1) p H = .ok [] H := by
  show (match itemsV H v with | some vs => (match vs[p]? with | some x => (f x H).only fun b H1 => (compR f v k (p + 1) H1).only fun bs H2 => .ok (b :: bs) H2 | none => .ok [] H) | none => .stuck) = _
  rw [hv]
  show (match vs[p]? with | some x => (f x H).only fun b H1 => (compR f v k (p + 1) H1).only fun bs H2 => .ok (b :: bs) H2 | none => .ok [] H) = _
  rw [hx]
theorem comp_ok {K : Hp} {refs : List Nat} {recs : List Rec} (w : WI B K i j refs recs) (d : O) {F : Fns} : ∀ (k p : Nat), k + p = recs.length + 1 → p ≤ recs.length →
    compR (fun x H2 => evalE F GV sg p_told_elt [some x] H2) (.obj j) k p (K.set i d) = .ok ((recs.drop p).map Rec.tup) (K.set i d)
  | 0, p, hp, hq => by
    exfalso
    omega
  | k + 1, p, hp, hq => by
    have iv : itemsV (K.set i d) (.obj j) = some (refs.map fun a => .inst 90 a) := by
      show (match (K.set i d)[j]? with | some (.list vs) => some vs | _ => none) = _
      rw [w.lst' d]
    rcases Nat.lt_or_ge p recs.length with hlt | hge
    · have hlt' : p < refs.length := by rw [w.len]; exact hlt
      have h1 := List.getElem?_eq_getElem hlt'
      have h2 := List.getElem?_eq_getElem hlt
      rw [List.drop_eq_getElem_cons hlt]
      exact comp_at iv (by rw [List.getElem?_map, h1]; rfl) (elt_ok (w.at' d h1 h2) (w.all p _ _ h1 h2).2.2.2) (comp_ok w d k (p + 1) (by omega) hlt)
    · rw [List.drop_eq_nil_of_le hge]
      exact comp_end iv (List.getElem?_eq_none (by rw [List.length_map, w.len]; exact hge))
theorem r_comp {F : Fns} {G : Nat → Option V} {sg : Sig} {e s : Ex} {m : Loc} {H H1 H2 : Hp} {v : V} {vs rs : List V} (h1 : evalE F G sg s m H = .ok v H1) (h2 : itemsV H1 v = some vs) (h3 : vs.length ≤ big) (h4 : compR (fun x H2 => evalE F G sg e [some x] H2) v (vs.length + 1) 0 H1 = .ok rs H2) : evalE F G sg (.comp e s) m H = .ok (.lst rs) H2 :=
  bind_ok h1 (by rw [h2]; exact (if_pos h3).trans (by rw [h4]; rfl))
theorem k_told (hW : W = 1001) {T : List Nat} (hT : T.length ≤ 1000) {r : WR} (h : wlF T = some r) :
    ∃ H', FF W (n + 12) 36 [.str T] B = .ok (toldV r) H' ∧ ∀ x, x < B.length → H'[x]? = B[x]? := by
  have L := k_words (W := W) (n := n) (B := B) hW hT h
  cases r with
  | ok recs =>
    obtain ⟨hr, K', refs', τ, wk, L⟩ := L
    refine ⟨K'.set B.length τ.dict, ?_, fun x hx => by rw [List.getElem?_set_ne (by omega)]; exact wk.fr x hx⟩
    have iv : itemsV (K'.set B.length τ.dict) (.obj (B.length + 1)) = some (refs'.map fun a => .inst 90 a) := by
      show (match (K'.set B.length τ.dict)[B.length + 1]? with | some (.list vs) => some vs | _ => none) = _
      rw [wk.lst' _]
    have lr : (refs'.map fun a => V.inst 90 a).length = recs.length := by rw [List.length_map, wk.len]
    have cr := comp_ok (F := FF W (n + 11)) wk τ.dict (recs.length + 1) 0 (Nat.add_zero _) (Nat.zero_le _)
    rw [← lr] at cr
    exact k_of (n := n + 10) (fn := p_law_told) (B := .cons (.tryPlace (.comp p_told_elt (.call 26 (.cons (.loc 0) .nil)))) .nil) (m := [some (.str T), none]) rfl rfl rfl
      (s_cons (s_try (r_comp (r_call (r_cons loc0 r_nil) L) iv (by rw [lr]; exact Nat.le_trans hr (by decide)) cr)) t_ret) rfl
  | err l c =>
    obtain ⟨K', refs', recs', τ, wk, L⟩ := L
    refine ⟨K'.set B.length τ.dict, ?_, fun x hx => by rw [List.getElem?_set_ne (by omega)]; exact wk.fr x hx⟩
    exact k_of (n := n + 10) (fn := p_law_told) (B := .cons (.tryPlace (.comp p_told_elt (.call 26 (.cons (.loc 0) .nil)))) .nil) (m := [some (.str T), none]) rfl rfl rfl
      (s_cons (s_tryX (bind_ex (r_call (r_cons loc0 r_nil) L)) rfl) t_ret) rfl
end
end
-- Q15
section
/-- a word of the menu: kind, text, value, source -/
structure Wd where
  kd : List Nat
  tx : List Nat
  v : V
  src : List Nat
noncomputable def menuL : List (List Wd) := [[⟨[99, 104, 97, 114], [39, 92, 111, 49, 48, 49, 39], .str [65], [39, 92, 111, 49, 48, 49, 39]⟩],
  [⟨[99, 104, 97, 114], [39, 92, 120, 52, 97, 39], .str [74], [39, 92, 120, 52, 97, 39]⟩],
  [⟨[99, 104, 97, 114], [39, 92, 55, 52, 39], .str [74], [39, 92, 55, 52, 39]⟩],
  [⟨[99, 104, 97, 114], [39, 92, 68, 69, 76, 39], .str [127], [39, 92, 68, 69, 76, 39]⟩],
  [⟨[99, 104, 97, 114], [39, 92, 94, 64, 39], .str [0], [39, 92, 94, 64, 39]⟩],
  [⟨[99, 104, 97, 114], [39, 92, 94, 95, 39], .str [31], [39, 92, 94, 95, 39]⟩],
  [⟨[99, 104, 97, 114], [39, 92, 83, 79, 39], .str [14], [39, 92, 83, 79, 39]⟩],
  [⟨[99, 104, 97, 114], [39, 92, 39, 39], .str [39], [39, 92, 39, 39]⟩],
  [⟨[116, 101, 120, 116], [34, 92, 83, 79, 72, 92, 83, 79, 92, 38, 72, 34], .str [1, 14, 72], [34, 92, 83, 79, 72, 92, 83, 79, 92, 38, 72, 34]⟩],
  [⟨[116, 101, 120, 116], [34, 97, 92, 32, 32, 9, 92, 98, 34], .str [97, 98], [34, 97, 92, 32, 32, 9, 92, 98, 34]⟩],
  [⟨[116, 101, 120, 116], [34, 97, 92, 10, 32, 92, 92, 34, 98, 34], .str [97, 34, 98], [34, 97, 92, 10, 32, 92, 92, 34, 98, 34]⟩],
  [⟨[116, 101, 120, 116], [34, 92, 49, 50, 92, 38, 51, 92, 120, 102, 71, 92, 111, 49, 55, 56, 34], .str [12, 51, 15, 71, 15, 56], [34, 92, 49, 50, 92, 38, 51, 92, 120, 102, 71, 92, 111, 49, 55, 56, 34]⟩],
  [⟨[116, 101, 120, 116], [34, 45, 45, 123, 45, 34], .str [45, 45, 123, 45], [34, 45, 45, 123, 45, 34]⟩],
  [⟨[105, 110, 116], [48, 48, 55], .int 7, [48, 48, 55]⟩],
  [⟨[105, 110, 116], [48, 88, 102, 70], .int 255, [48, 88, 102, 70]⟩],
  [⟨[105, 110, 116], [48, 111, 49, 55], .int 15, [48, 111, 49, 55]⟩],
  [⟨[105, 110, 116], [48], .int 0, [48]⟩, ⟨[118, 97, 114], [120], .none, [120]⟩],
  [⟨[105, 110, 116], [48], .int 0, [48]⟩, ⟨[118, 97, 114], [111, 56], .none, [111, 56]⟩],
  [⟨[105, 110, 116], [48, 120, 49], .int 1, [48, 120, 49]⟩, ⟨[118, 97, 114], [103], .none, [103]⟩],
  [⟨[99, 111, 110], [77], .none, [77]⟩, ⟨[118, 97, 114, 115, 121, 109], [46], .none, [46]⟩, ⟨[107, 101, 121], [119, 104, 101, 114, 101], .none, [119, 104, 101, 114, 101]⟩],
  [⟨[118, 97, 114, 115, 121, 109], [46], .str [77], [77, 46, 46]⟩],
  [⟨[99, 111, 110], [77], .none, [77]⟩, ⟨[118, 97, 114, 115, 121, 109], [46, 61], .none, [46, 61]⟩],
  [⟨[118, 97, 114], [120, 39], .str [65, 46, 66], [65, 46, 66, 46, 120, 39]⟩],
  [⟨[99, 111, 110], [66, 39, 99], .str [65], [65, 46, 66, 39, 99]⟩],
  [⟨[118, 97, 114, 115, 121, 109], [124, 45, 45], .none, [124, 45, 45]⟩],
  [⟨[118, 97, 114, 115, 121, 109], [45, 45, 62], .none, [45, 45, 62]⟩],
  [⟨[118, 97, 114, 115, 121, 109], [45, 45, 46, 45], .none, [45, 45, 46, 45]⟩],
  [⟨[111, 112], [45, 62], .none, [45, 62]⟩],
  [⟨[99, 111, 110, 115, 121, 109], [58, 45, 45], .none, [58, 45, 45]⟩]]
noncomputable def gapL : List (List Nat) := [[32], [10], [9], [32, 13, 10], [12, 11, 32], [32, 45, 45, 45, 32, 99, 32, 34, 32, 123, 45, 10], [32, 45, 45, 120, 10, 9], [123, 45, 32, 45, 45, 32, 45, 125, 32], [123, 45, 123, 45, 45, 125, 10, 45, 125], [32, 45, 45, 32, 45, 45, 62, 10], [10, 10, 32], [123, 45, 45, 45, 32, 39, 45, 125]]
noncomputable def spoiltL : List (List Nat × Nat) := [([39, 92, 113, 39], 2), ([39, 97, 98, 39], 0), ([34, 97, 98, 10, 34], 0), ([34, 97, 92, 32, 98, 34], 0), ([39, 92, 49, 49, 49, 52, 49, 49, 50, 39], 2), ([39, 92, 120, 49, 49, 48, 48, 48, 48, 39], 2), ([39, 39], 0), ([123, 45, 32, 123, 45, 32, 45, 125], 0), ([34, 92, 111, 57, 34], 2), ([39, 92, 94, 97, 39], 2), ([8364], 0), ([34, 92], 2)]
noncomputable def tailL : List (List Nat) := [[], [45, 45, 32, 108, 97, 115, 116], [123, 45, 32, 45, 125], [45, 45]]
theorem all_nil {α : Type} {P : α → Prop} : ∀ x ∈ ([] : List α), P x := fun _ h => nomatch h
theorem all_cons {α : Type} {P : α → Prop} {a : α} {l : List α} (h : P a) (t : ∀ x ∈ l, P x) : ∀ x ∈ a :: l, P x := fun x hx => (List.mem_cons.mp hx).elim (fun e => e ▸ h) (t x)
structure Stop (s : List Nat) : Prop where
  a : among (sgn s 0) sBL = false
  b : lineQ s = false
  c : (s.take 2 == [123, 45]) = false
theorem stop_sb {s : List Nat} (h : Stop s) (f k : Nat) : sbL (f + 1) s k = some (.ok .none k) := by
  show (bif among (sgn s 0) sBL then _ else bif lineQ s then _ else bif s.take 2 == [123, 45] then _ else _) = _
  rw [h.a, h.b, h.c]; rfl
noncomputable def stopB (s : List Nat) : Bool := !among (sgn s 0) sBL && (!lineQ s && !(s.take 2 == [123, 45]))
theorem not_t {b : Bool} (h : (!b) = true) : b = false := by cases b; rfl; cases h
theorem stopB_ok {s : List Nat} (h : stopB s = true) : Stop s := have a := Bool.and_eq_true_iff.mp h; have b := Bool.and_eq_true_iff.mp a.2; ⟨not_t a.1, not_t b.1, not_t b.2⟩
noncomputable def srcs : List Wd → List Nat
  | [] => []
  | w :: r => w.src ++ srcs r
structure WOK (w : Wd) (x : List Nat) : Prop where
  st : Stop (w.src ++ x)
  rd : rwF (w.src ++ x) = some (.ok (.tup [.str w.kd, .str w.tx, w.v]) w.src.length)
  ne : (w.kd == sEND) = false
  ng : noGlob w.v = true
inductive WOKs : List Wd → List Nat → Prop where
  | nil (x : List Nat) : WOKs [] x
  | cons {w : Wd} {r : List Wd} {x : List Nat} (h : WOK w (srcs r ++ x)) (t : WOKs r x) : WOKs (w :: r) x
noncomputable def vEq (a b : V) : Bool := match a with
  | .none => (match b with | .none => true | _ => false)
  | .int i => (match b with | .int j => i == j | _ => false)
  | .str s => (match b with | .str t => s == t | _ => false)
  | _ => false
theorem vEq_ok {a b : V} (h : vEq a b = true) : a = b ∧ noGlob b = true := by
  cases a with
  | none => cases b with | none => exact ⟨rfl, rfl⟩ | _ => cases h
  | int i => cases b with | int j => exact ⟨congrArg V.int (beq_iff_eq.mp h), rfl⟩ | _ => cases h
  | str i => cases b with | str j => exact ⟨congrArg V.str (beq_iff_eq.mp h), rfl⟩ | _ => cases h
  | _ => cases h
noncomputable def wordV (v : V) : Option (List Nat × List Nat × V) := match v with
  | .tup [.str k, .str t, u] => some (k, t, u)
  | _ => none
theorem wordV_ok {v u : V} {k t : List Nat} (h : wordV v = some (k, t, u)) : v = .tup [.str k, .str t, u] := by
  unfold wordV at h
  split at h
  · cases h; rfl
  · cases h
noncomputable def rdB (w : Wd) (r : Option LX) : Bool := match r with
  | some (.ok v n) => (match wordV v with
    | some (k, t, u) => k == w.kd && (t == w.tx && (vEq u w.v && n == w.src.length))
    | none => false)
  | _ => false
noncomputable def wB (w : Wd) (x : List Nat) : Bool := stopB (w.src ++ x) && (rdB w (rwF (w.src ++ x)) && !(w.kd == sEND))
theorem wB_ok {w : Wd} {x : List Nat} (h : wB w x = true) : WOK w x := by
  have a := Bool.and_eq_true_iff.mp h
  have b := Bool.and_eq_true_iff.mp a.2
  have hr := b.1
  cases e : rwF (w.src ++ x) with
  | none => rw [e] at hr; cases hr
  | some r =>
    rw [e] at hr
    cases r with
    | err d e => cases hr
    | ok v n =>
      cases ev : wordV v with
      | none =>
        replace hr : (match wordV v with | some (k, t, u) => k == w.kd && (t == w.tx && (vEq u w.v && n == w.src.length)) | none => false) = true := hr
        rw [ev] at hr; cases hr
      | some p =>
        obtain ⟨k, t, u⟩ := p
        replace hr : (match wordV v with | some (k, t, u) => k == w.kd && (t == w.tx && (vEq u w.v && n == w.src.length)) | none => false) = true := hr
        rw [ev] at hr
        have c := Bool.and_eq_true_iff.mp hr
        have d := Bool.and_eq_true_iff.mp c.2
        have f := Bool.and_eq_true_iff.mp d.2
        have g := vEq_ok f.1
        exact ⟨stopB_ok a.1, by rw [e, wordV_ok ev, beq_iff_eq.mp c.1, beq_iff_eq.mp d.1, g.1, beq_iff_eq.mp f.2], not_t b.2, g.2⟩
noncomputable def wsB : List Wd → List Nat → Bool
  | [], _ => true
  | w :: r, x => wB w (srcs r ++ x) && wsB r x
theorem wsB_ok : ∀ (e : List Wd) (x : List Nat), wsB e x = true → WOKs e x
  | [], x, _ => .nil x
  | w :: r, x, h => have a := Bool.and_eq_true_iff.mp h; .cons (wB_ok a.1) (wsB_ok r x a.2)
theorem ew_all (x : List Nat) : (menuL.all fun e => ([32, 10, 9, 12, 123] : List Nat).all fun c => wsB e (c :: x)) = true := by kernel_rfl
theorem ew {e : List Wd} (he : e ∈ menuL) {gc : Nat} (hg : gc ∈ ([32, 10, 9, 12, 123] : List Nat)) (x : List Nat) : WOKs e (gc :: x) := wsB_ok _ _ (List.all_eq_true.mp (List.all_eq_true.mp (ew_all x) e he) gc hg)
/-- passed whole, whatever stands behind -/
noncomputable def GOK (g : List Nat) : Prop := ∃ m, m ≤ 50 ∧ ∀ f k x, sbL (f + m) (g ++ x) k = sbL f x (k + g.length)
theorem gok_nil : GOK [] := ⟨0, by decide, fun f k x => rfl⟩
theorem gok_of {g : List Nat} (m : Nat) (hm : Nat.ble m 50 = true) (h : ∀ f k x, sbL (f + m) (g ++ x) k = sbL f x (k + g.length)) : GOK g := ⟨m, Nat.le_of_ble_eq_true hm, h⟩
theorem gok : ∀ g ∈ gapL, GOK g := all_cons (gok_of 1 rfl fun f k x => by kernel_rfl) (all_cons (gok_of 1 rfl fun f k x => by kernel_rfl) (all_cons (gok_of 1 rfl fun f k x => by kernel_rfl) (all_cons (gok_of 3 rfl fun f k x => by kernel_rfl) (all_cons (gok_of 3 rfl fun f k x => by kernel_rfl) (all_cons (gok_of 3 rfl fun f k x => by kernel_rfl) (all_cons (gok_of 4 rfl fun f k x => by kernel_rfl) (all_cons (gok_of 2 rfl fun f k x => by kernel_rfl) (all_cons (gok_of 1 rfl fun f k x => by kernel_rfl) (all_cons (gok_of 3 rfl fun f k x => by kernel_rfl) (all_cons (gok_of 3 rfl fun f k x => by kernel_rfl) (all_cons (gok_of 1 rfl fun f k x => by kernel_rfl) all_nil)))))))))))
theorem ghead : ∀ g ∈ gapL, ∃ c r, g = c :: r ∧ c ∈ ([32, 10, 9, 12, 123] : List Nat) := all_cons ⟨_, _, rfl, by decide⟩ (all_cons ⟨_, _, rfl, by decide⟩ (all_cons ⟨_, _, rfl, by decide⟩ (all_cons ⟨_, _, rfl, by decide⟩ (all_cons ⟨_, _, rfl, by decide⟩ (all_cons ⟨_, _, rfl, by decide⟩ (all_cons ⟨_, _, rfl, by decide⟩ (all_cons ⟨_, _, rfl, by decide⟩ (all_cons ⟨_, _, rfl, by decide⟩ (all_cons ⟨_, _, rfl, by decide⟩ (all_cons ⟨_, _, rfl, by decide⟩ (all_cons ⟨_, _, rfl, by decide⟩ all_nil)))))))))))
theorem tail_ok (f k : Nat) : ∀ t ∈ tailL, sbL (f + 3) t k = some (.ok .none (k + t.length)) := all_cons (by kernel_rfl) (all_cons (by kernel_rfl) (all_cons (by kernel_rfl) (all_cons (by kernel_rfl) all_nil)))
/-- a line and a column, one sign on -/
noncomputable def mv (p : Int × Int) (c : Nat) : Int × Int := if c = 10 then (p.1 + 1, 1) else if c = 9 then (p.1, (p.2 - 1).fdiv 8 * 8 + 8 + 1) else (p.1, p.2 + 1)
noncomputable def BAD (s : List Nat) (far : Nat) : Prop := (far = 0 ∧ ∃ e, ∀ f k, sbL (f + 1) s k = some (.err (k + 0) (k + e))) ∨
  (Stop s ∧ (∃ e, rwF s = some (.err far e)) ∧ (∀ l c : Int, (s.take far).foldl mv (l, c) = (l, c + (far : Int))) ∧ far ≤ s.length)
noncomputable def badB (s : List Nat) (d : Nat) : Bool := match rwF s with
  | some (.err n _) => n == d && stopB s
  | _ => false
theorem badB_ok {s : List Nat} {d : Nat} (h : badB s d = true) : (∃ e, rwF s = some (.err d e)) ∧ Stop s := by
  unfold badB at h
  split at h
  · rename_i d' e' h'
    have a := Bool.and_eq_true_iff.mp h
    exact ⟨⟨e', by rw [h', beq_iff_eq.mp a.1]⟩, stopB_ok a.2⟩
  · cases h
theorem bad0 {s : List Nat} (h : badB s 0 = true) : BAD s 0 := have a := badB_ok h; .inr ⟨a.2, a.1, fun l c => by show (l, c) = (l, c + 0); rw [Int.add_zero], Nat.zero_le _⟩
theorem bad2 {a b : Nat} {s : List Nat} (h : badB (a :: b :: s) 2 = true) (ha : a ≠ 10 ∧ a ≠ 9) (hb : b ≠ 10 ∧ b ≠ 9) : BAD (a :: b :: s) 2 := have q := badB_ok h; .inr ⟨q.2, q.1, fun l c => by
  show mv (mv (l, c) a) b = _
  unfold mv
  rw [if_neg ha.1, if_neg ha.2, if_neg hb.1, if_neg hb.2]
  show (l, c + 1 + 1) = (l, c + 2)
  rw [Int.add_assoc]; rfl, Nat.succ_le_succ (Nat.succ_le_succ (Nat.zero_le _))⟩
theorem bad : ∀ s ∈ spoiltL, BAD s.1 s.2 := all_cons (bad2 (by kernel_rfl) (by decide) (by decide)) (all_cons (bad0 (by kernel_rfl)) (all_cons (bad0 (by kernel_rfl)) (all_cons (bad0 (by kernel_rfl)) (all_cons (bad2 (by kernel_rfl) (by decide) (by decide)) (all_cons (bad2 (by kernel_rfl) (by decide) (by decide)) (all_cons (bad0 (by kernel_rfl)) (all_cons (.inl ⟨rfl, 8, fun f k => by kernel_rfl⟩) (all_cons (bad2 (by kernel_rfl) (by decide) (by decide)) (all_cons (bad2 (by kernel_rfl) (by decide) (by decide)) (all_cons (bad0 (by kernel_rfl)) (all_cons (bad2 (by kernel_rfl) (by decide) (by decide)) all_nil)))))))))))
end
-- Q16
section
structure Pg where
  T : List Nat
  l : Int
  c : Int
  f : Bool
  due : List Rec
noncomputable def Pg.go (p : Pg) (t : List Nat) : Pg := ⟨p.T ++ t, (t.foldl mv (p.l, p.c)).1, (t.foldl mv (p.l, p.c)).2, p.f || t.contains 10, p.due⟩
noncomputable def Pg.add (p : Pg) (w : Wd) : Pg := ⟨p.T ++ w.src, (w.src.foldl mv (p.l, p.c)).1, (w.src.foldl mv (p.l, p.c)).2, false, p.due ++ [⟨w.kd, w.tx, w.v, p.l, p.c, p.f⟩]⟩
noncomputable def Pg.zero : Pg := ⟨[], 1, 1, true, []⟩
inductive BP : Nat → Pg → Prop where
  | zero : BP 0 Pg.zero
  | turn {k : Nat} {p : Pg} {e : List Wd} {g : List Nat} (b : BP k p) (he : e ∈ menuL) (hg : g ∈ gapL) : BP (k + 1) ((e.foldl Pg.add p).go g)
theorem stp_mv {σ : Sg} {c : Nat} {r : List Nat} (h : σ.s = c :: r) : (σ.stp.l, σ.stp.c) = mv (σ.l, σ.c) c := by
  have ht : σ.s.take 1 = [c] := by rw [h]; rfl
  unfold Sg.stp mv
  rw [ht]
  by_cases h10 : c = 10
  · subst h10; rfl
  · by_cases h9 : c = 9
    · subst h9; rfl
    · rw [if_neg (by simpa using h10), if_neg (by simpa using h9), if_neg h10, if_neg h9]
theorem adv_mv : ∀ (x : List Nat) (σ : Sg) (r : List Nat), σ.s = x ++ r → ((σ.adv x.length).l, (σ.adv x.length).c) = x.foldl mv (σ.l, σ.c)
  | [], σ, r, _ => rfl
  | c :: x, σ, r, h => by
    have h' : σ.s = c :: (x ++ r) := h
    rw [List.length_cons, Sg.adv, adv_mv x σ.stp r (σ.stp_cons h'), stp_mv h']; rfl
theorem mv_le (p : Int × Int) (c : Nat) : p.1 ≤ (mv p c).1 := by
  unfold mv
  split
  · show p.1 ≤ p.1 + 1; omega
  · split
    · exact Int.le_refl _
    · exact Int.le_refl _
theorem mvs_le : ∀ (x : List Nat) (p : Int × Int), p.1 ≤ (x.foldl mv p).1
  | [], p => Int.le_refl _
  | c :: x, p => Int.le_trans (mv_le p c) (mvs_le x (mv p c))
theorem mvs_l : ∀ (x : List Nat) (p : Int × Int), decide ((x.foldl mv p).1 > p.1) = x.contains 10
  | [], p => by simp
  | c :: x, p => by
    rw [List.foldl_cons, List.contains_cons]
    by_cases h : c = 10
    · subst h
      have := mvs_le x (mv p 10)
      have e : (mv p 10).1 = p.1 + 1 := rfl
      have : (x.foldl mv (mv p 10)).1 > p.1 := by omega
      simp [this]
    · have hc : (10 == c) = false := by simpa using fun e : 10 = c => h e.symm
      have e : (mv p c).1 = p.1 := by
        unfold mv; rw [if_neg h]; split <;> rfl
      have := mvs_l x (mv p c)
      rw [e] at this
      rw [hc, this]; rfl
structure LI (T : List Nat) (p : Pg) (pend fut : List Nat) (f : Nat) (σ : Sg) (b : Bool) : Prop where
  e : wlL 1000 ⟨T, 0, 1, 1⟩ true [] = wlL f σ b p.due
  n : f + p.due.length = 1000
  s : σ.s = pend ++ fut
  pl : ((σ.adv pend.length).l, (σ.adv pend.length).c) = (p.l, p.c)
  pf : p.f = (pend.contains 10 || b)
theorem sb_pend {pend fut : List Nat} (hg : GOK pend) (hs : Stop fut) : sbF (pend ++ fut) = some (.ok .none pend.length) := by
  obtain ⟨m, hm, e⟩ := hg
  unfold sbF
  have := e (1000 - m) 0 fut
  rw [show 1000 - m + m = 1000 by omega] at this
  rw [this, show 1000 - m = (999 - m) + 1 by omega, stop_sb hs, Nat.zero_add]
theorem LI.word {T : List Nat} {p : Pg} {pend fut : List Nat} {f : Nat} {σ : Sg} {b : Bool} {w : Wd} (h : LI T p pend (w.src ++ fut) (f + 1) σ b) (hg : GOK pend) (hw : WOK w fut) (hl : p.due.length < 900) :
    LI T (p.add w) [] fut f (σ.adv (pend.length + w.src.length)) false := by
  have hs : (σ.adv pend.length).s = w.src ++ fut := by rw [Sg.adv_s, h.s]; simp
  have pl := h.pl
  have pl1 : (σ.adv pend.length).l = p.l := congrArg Prod.fst pl
  have pl2 : (σ.adv pend.length).c = p.c := congrArg Prod.snd pl
  refine ⟨?_, ?_, ?_, ?_, rfl⟩
  · rw [h.e, wlL, h.s, sb_pend hg hw.st]
    dsimp only
    rw [show (pend ++ (w.src ++ fut)).drop pend.length = w.src ++ fut by simp, hw.rd]
    dsimp only
    rw [if_pos ⟨hw.ng, by omega⟩, hw.ne, if_neg (by decide)]
    have hd : decide ((σ.adv pend.length).l > σ.l) = pend.contains 10 := by
      have a := adv_mv pend σ _ h.s
      have a1 : (σ.adv pend.length).l = (pend.foldl mv (σ.l, σ.c)).1 := congrArg Prod.fst a
      rw [a1]; exact mvs_l pend (σ.l, σ.c)
    rw [hd, ← h.pf, pl1, pl2]; rfl
  · show f + (p.due ++ [_]).length = 1000
    have := h.n
    rw [List.length_append]; simp only [List.length_cons, List.length_nil]; omega
  · rw [Sg.adv_s, h.s, ← List.drop_drop]; simp
  · show ((Sg.adv 0 (σ.adv _)).l, (Sg.adv 0 (σ.adv _)).c) = ((w.src.foldl mv (p.l, p.c)).1, (w.src.foldl mv (p.l, p.c)).2)
    rw [← Sg.adv_adv, Sg.adv]
    have := adv_mv w.src (σ.adv pend.length) _ hs
    rw [pl1, pl2] at this
    exact this
theorem LI.gap {T : List Nat} {p : Pg} {g fut : List Nat} {f : Nat} {σ : Sg} {b : Bool} (h : LI T p [] (g ++ fut) f σ b) : LI T (p.go g) g fut f σ b := by
  have hs : σ.s = g ++ fut := h.s
  refine ⟨h.e, h.n, hs, ?_, ?_⟩
  · have := adv_mv g σ _ hs
    have pl : (σ.l, σ.c) = (p.l, p.c) := h.pl
    rw [this, pl]; rfl
  · show (p.f || g.contains 10) = _
    have := h.pf
    rw [this, List.contains_nil, Bool.false_or, Bool.or_comm]
theorem LI.words {T : List Nat} : ∀ (e : List Wd) {p : Pg} {fut : List Nat} {f : Nat} {σ : Sg} {b : Bool}, LI T p [] (srcs e ++ fut) (f + e.length) σ b → WOKs e fut → p.due.length + e.length < 900 →
    ∃ σ' b', LI T (e.foldl Pg.add p) [] fut f σ' b'
  | [], p, fut, f, σ, b, h, _, _ => ⟨σ, b, h⟩
  | w :: r, p, fut, f, σ, b, h, hw, hl => by
    cases hw with
    | cons h1 h2 =>
      rw [srcs, List.append_assoc] at h
      have hl' : p.due.length + (r.length + 1) < 900 := hl
      have := LI.word (f := f + r.length) h gok_nil h1 (by omega)
      refine LI.words r this h2 ?_
      show (p.due ++ [_]).length + r.length < 900
      rw [List.length_append]; simp only [List.length_cons, List.length_nil]; omega
theorem LI.words1 {T : List Nat} {e : List Wd} (hne : e ≠ []) {p : Pg} {pend fut : List Nat} {f : Nat} {σ : Sg} {b : Bool} (h : LI T p pend (srcs e ++ fut) (f + e.length) σ b) (hg : GOK pend) (hw : WOKs e fut) (hl : p.due.length + e.length < 900) :
    ∃ σ' b', LI T (e.foldl Pg.add p) [] fut f σ' b' := by
  cases hw with
  | nil => exact absurd rfl hne
  | @cons w r _ h1 h2 =>
    rw [srcs, List.append_assoc] at h
    have hl' : p.due.length + (r.length + 1) < 900 := hl
    have := LI.word (f := f + r.length) h hg h1 (by omega)
    refine LI.words r this h2 ?_
    show (p.due ++ [_]).length + r.length < 900
    rw [List.length_append]; simp only [List.length_cons, List.length_nil]; omega
theorem adds_T : ∀ (e : List Wd) (p : Pg), (e.foldl Pg.add p).T = p.T ++ srcs e
  | [], p => by simp [srcs]
  | w :: r, p => by
    rw [List.foldl_cons, adds_T r]
    show p.T ++ w.src ++ srcs r = p.T ++ (w.src ++ srcs r)
    rw [List.append_assoc]
theorem adds_due : ∀ (e : List Wd) (p : Pg), (e.foldl Pg.add p).due.length = p.due.length + e.length
  | [], p => rfl
  | w :: r, p => by
    rw [List.foldl_cons, adds_due r]
    show (p.due ++ [_]).length + r.length = p.due.length + (r.length + 1)
    rw [List.length_append]; simp only [List.length_cons, List.length_nil]; omega
theorem menu_sz : ∀ e ∈ menuL, e.length ≤ 3 ∧ 0 < e.length ∧ (srcs e).length ≤ 50 := by decide +kernel
theorem gap_sz : ∀ g ∈ gapL, g.length ≤ 50 := by decide +kernel
theorem bp_sz {k : Nat} {p : Pg} (b : BP k p) : p.due.length ≤ 3 * k ∧ p.T.length ≤ 100 * k := by
  induction b with
  | zero => exact ⟨Nat.le_refl _, Nat.le_refl _⟩
  | @turn k p e g b he hg ih =>
    have m := menu_sz e he
    have g' := gap_sz g hg
    constructor
    · show (e.foldl Pg.add p).due.length ≤ _
      rw [adds_due]; omega
    · show ((e.foldl Pg.add p).T ++ g).length ≤ _
      rw [adds_T, List.length_append, List.length_append]; omega
theorem bp_li {k : Nat} {p : Pg} (b : BP k p) (hk : k ≤ 50) : ∀ (T fut : List Nat), T = p.T ++ fut → ∃ pend f σ b', GOK pend ∧ LI T p pend fut f σ b' := by
  induction b with
  | zero =>
    intro T fut h
    have h' : T = fut := h
    exact ⟨[], 1000, ⟨T, 0, 1, 1⟩, true, gok_nil, rfl, rfl, h', rfl, rfl⟩
  | @turn k p e g b he hg ih =>
    intro T fut h
    have sz := bp_sz b
    have m := menu_sz e he
    have h' : T = p.T ++ (srcs e ++ (g ++ fut)) := by
      rw [h]
      show (e.foldl Pg.add p).T ++ g ++ fut = _
      rw [adds_T]; simp [List.append_assoc]
    obtain ⟨pend, f, σ, b', hp, L⟩ := ih (by omega) T _ h'
    obtain ⟨c, r, hgc, hc⟩ := ghead _ hg
    have hw : WOKs e (g ++ fut) := by rw [hgc]; exact ew he hc _
    have hn := L.n
    obtain ⟨f', hf⟩ : ∃ f', f = f' + e.length := ⟨f - e.length, by omega⟩
    subst hf
    obtain ⟨σ2, b2, L2⟩ := LI.words1 (by intro h0; rw [h0] at m; simp at m) L hp hw (by omega)
    exact ⟨g, f', σ2, b2, gok _ hg, L2.gap⟩
/-- at a page's end -/
theorem li_end {T : List Nat} {p : Pg} {pend t : List Nat} {f : Nat} {σ : Sg} {b : Bool} (h : LI T p pend t f σ b) (hg : GOK pend) (ht : t ∈ tailL) (hl : p.due.length < 900) :
    wlF T = some (.ok ((p.go t).due ++ [⟨sEND, [], .none, (p.go t).l, (p.go t).c, (p.go t).f⟩])) := by
  have hn := h.n
  obtain ⟨f', hf⟩ : ∃ f', f = f' + 1 := ⟨f - 1, by omega⟩
  subst hf
  have hs : (σ.adv pend.length).s = t ++ [] := by rw [Sg.adv_s, h.s]; simp
  have pl1 : (σ.adv pend.length).l = p.l := congrArg Prod.fst h.pl
  have pl2 : (σ.adv pend.length).c = p.c := congrArg Prod.snd h.pl
  have sb : sbF (pend ++ t) = some (.ok .none (pend.length + t.length)) := by
    obtain ⟨m, hm, e⟩ := hg
    unfold sbF
    have := e (1000 - m) 0 t
    rw [show 1000 - m + m = 1000 by omega] at this
    rw [this, show 1000 - m = (997 - m) + 3 by omega, tail_ok _ _ _ ht, Nat.zero_add]
  unfold wlF
  rw [h.e, wlL, h.s, sb]
  dsimp only
  rw [show (pend ++ t).drop (pend.length + t.length) = [] by rw [← List.length_append]; simp]
  rw [show rwF [] = some (.ok (.tup [.str sEND, .str [], .none]) 0) from rfl]
  dsimp only
  rw [if_pos ⟨rfl, by omega⟩, if_pos (show (sEND == sEND) = true from rfl)]
  have ha := adv_mv t (σ.adv pend.length) [] hs
  rw [Sg.adv_adv, pl1, pl2] at ha
  have a1 : (σ.adv (pend.length + t.length)).l = (t.foldl mv (p.l, p.c)).1 := congrArg Prod.fst ha
  have a2 : (σ.adv (pend.length + t.length)).c = (t.foldl mv (p.l, p.c)).2 := congrArg Prod.snd ha
  have hd : decide ((σ.adv (pend.length + t.length)).l > σ.l) = (pend ++ t).contains 10 := by
    have a := adv_mv (pend ++ t) σ [] (by rw [h.s]; simp)
    rw [List.length_append] at a
    have a1 : (σ.adv (pend.length + t.length)).l = ((pend ++ t).foldl mv (σ.l, σ.c)).1 := congrArg Prod.fst a
    rw [a1]; exact mvs_l (pend ++ t) (σ.l, σ.c)
  have hf : ((pend ++ t).contains 10 || b) = (p.f || t.contains 10) := by
    rw [h.pf, List.contains_eq_mem, List.contains_eq_mem, List.contains_eq_mem]
    simp only [List.mem_append]
    cases b <;> simp
  rw [hd, hf, a1, a2]; rfl
/-- a spoilt word behind a page -/
theorem li_bad {T : List Nat} {p : Pg} {pend s : List Nat} {far f : Nat} {σ : Sg} {b : Bool} (h : LI T p pend s f σ b) (hg : GOK pend) (hb : BAD s far) (hl : p.due.length < 900) : wlF T = some (.err p.l (p.c + (far : Int))) := by
  have hn := h.n
  obtain ⟨f', hf⟩ : ∃ f', f = f' + 1 := ⟨f - 1, by omega⟩
  subst hf
  have pl1 : (σ.adv pend.length).l = p.l := congrArg Prod.fst h.pl
  have pl2 : (σ.adv pend.length).c = p.c := congrArg Prod.snd h.pl
  unfold wlF
  rw [h.e, wlL, h.s]
  rcases hb with ⟨h0, e, he⟩ | ⟨hs, ⟨e, he⟩, hm, hlen⟩
  · subst h0
    have sb : sbF (pend ++ s) = some (.err (pend.length + 0) (pend.length + e)) := by
      obtain ⟨m, hm, e⟩ := hg
      unfold sbF
      have := e (1000 - m) 0 s
      rw [show 1000 - m + m = 1000 by omega] at this
      rw [this, show 1000 - m = (999 - m) + 1 by omega, he, Nat.zero_add]
    rw [sb]
    dsimp only
    rw [Nat.add_zero, pl1, pl2]; simp
  · rw [sb_pend hg hs]
    dsimp only
    rw [show (pend ++ s).drop pend.length = s by simp, he]
    dsimp only
    have hs' : (σ.adv pend.length).s = s.take far ++ s.drop far := by rw [Sg.adv_s, h.s]; simp
    have ha := adv_mv (s.take far) (σ.adv pend.length) _ hs'
    rw [List.length_take, Nat.min_eq_left hlen, pl1, pl2, hm, Sg.adv_adv] at ha
    have a1 : (σ.adv (pend.length + far)).l = p.l := congrArg Prod.fst ha
    have a2 : (σ.adv (pend.length + far)).c = p.c + (far : Int) := congrArg Prod.snd ha
    rw [a1, a2]
end
-- Q17
section
noncomputable def Wd.tup (w : Wd) : V := .tup [.str w.kd, .str w.tx, w.v]
noncomputable def pd (T : List Nat) (l c : Int) (f : Bool) (du : Nat) : O := .dict [([116, 101, 120, 116], .str T), ([108, 105, 110, 101], .int l), ([99, 111, 108, 117, 109, 110], .int c), ([102, 105, 114, 115, 116], .bool f), ([100, 117, 101], .obj du)]
noncomputable abbrev Pg.o (p : Pg) (du : Nat) : O := pd p.T p.l p.c p.f du
structure Tr (H : Hp) (t : Nat) : Prop where
  g : ∃ a b : Int, H[t]? = some (.list [.int a, .int b])
structure PS (H : Hp) (pg du : Nat) (p : Pg) : Prop where
  hp : H[pg]? = some (p.o du)
  hd : H[du]? = some (.list (p.due.map Rec.tup))
  ne : pg ≠ du
theorem tr_ne {H : Hp} {t pg du : Nat} {p : Pg} (T : Tr H t) (P : PS H pg du p) (hd : t ≠ du) : t ≠ pg := by
  intro e; subst e
  obtain ⟨a, b, h⟩ := T.g
  have := P.hp; rw [h] at this; cases this
theorem get_lt {H : Hp} {i : Nat} {o : O} (h : H[i]? = some o) : i < H.length := (List.getElem?_eq_some_iff.mp h).1
theorem Tr.set {H : Hp} {t i : Nat} {o : O} (T : Tr H t) (h : i ≠ t) : Tr (H.set i o) t := by
  obtain ⟨a, b, e⟩ := T.g
  exact ⟨a, b, by rw [List.getElem?_set_ne h]; exact e⟩
theorem Tr.new {H : Hp} {t : Nat} {a b : Int} (T : Tr H t) : Tr (H.set t (.list [.int a, .int b])) t := by
  obtain ⟨_, _, e⟩ := T.g
  exact ⟨a, b, set_get e⟩
theorem PS.set {H : Hp} {t pg du : Nat} {p : Pg} {o : O} (P : PS H pg du p) (h1 : t ≠ pg) (h2 : t ≠ du) : PS (H.set t o) pg du p :=
  ⟨by rw [List.getElem?_set_ne h1]; exact P.hp, by rw [List.getElem?_set_ne h2]; exact P.hd, P.ne⟩
section
variable {H : Hp} {i : Nat} {kvs : List (List Nat × V)} {vs : List V} {v : V} {f : List Nat} {j : Int}
theorem idx_d (h : H[i]? = some (.dict kvs)) (hk : kvGet kvs f = some v) : idxV H (.obj i) (.str f) = some v := by
  show idxO H[i]? _ = _
  rw [h]; exact hk
theorem idx_l (h : H[i]? = some (.list vs)) (hk : seqAt vs j = some v) : idxV H (.obj i) (.int j) = some v := by
  show idxO H[i]? _ = _
  rw [h]; exact hk
theorem set_d (h : H[i]? = some (.dict kvs)) (hc : (kvGet kvs f).isSome ∧ (kvs.map (·.1)).Nodup ∧ kvs.length ≤ big) : setIdxV H (.obj i) (.str f) v = some (H.set i (.dict (kvSet kvs f v))) := by
  show (match H[i]? with | some (.dict kvs) => if (kvGet kvs f).isSome ∧ (kvs.map fun p : List Nat × V => p.1).Nodup ∧ kvs.length ≤ big then some (H.set i (.dict (kvSet kvs f v))) else none | _ => none) = _
  rw [h]; exact if_pos hc
theorem set_l (h : H[i]? = some (.list vs)) (hc : 0 ≤ j ∧ j < vs.length ∧ vs.length ≤ big) : setIdxV H (.obj i) (.int j) v = some (H.set i (.list (vs.set j.toNat v))) := by
  show (match H[i]? with | some (.list vs) => if 0 ≤ j ∧ j < vs.length ∧ vs.length ≤ big then some (H.set i (.list (vs.set j.toNat v))) else none | _ => none) = _
  rw [h]; exact if_pos hc
end
section
variable {K : Hp} {i : Nat} {T X : List Nat} {l c x : Int} {f g : Bool} {du : Nat} {a b : Int}
theorem pd_nd : ([[116, 101, 120, 116], [108, 105, 110, 101], [99, 111, 108, 117, 109, 110], [102, 105, 114, 115, 116], [100, 117, 101]] : List (List Nat)).Nodup := by decide
theorem j_text (hi : i < K.length) : idxV (K.set i (pd T l c f du)) (.obj i) (.str [116, 101, 120, 116]) = some (.str T) := idx_d (gg (o := pd T l c f du) hi) rfl
theorem j_line (hi : i < K.length) : idxV (K.set i (pd T l c f du)) (.obj i) (.str [108, 105, 110, 101]) = some (.int l) := idx_d (gg (o := pd T l c f du) hi) rfl
theorem j_col (hi : i < K.length) : idxV (K.set i (pd T l c f du)) (.obj i) (.str [99, 111, 108, 117, 109, 110]) = some (.int c) := idx_d (gg (o := pd T l c f du) hi) rfl
theorem j_first (hi : i < K.length) : idxV (K.set i (pd T l c f du)) (.obj i) (.str [102, 105, 114, 115, 116]) = some (.bool f) := idx_d (gg (o := pd T l c f du) hi) rfl
theorem j_due (hi : i < K.length) : idxV (K.set i (pd T l c f du)) (.obj i) (.str [100, 117, 101]) = some (.obj du) := idx_d (gg (o := pd T l c f du) hi) rfl
theorem q_text (hi : i < K.length) : setIdxV (K.set i (pd T l c f du)) (.obj i) (.str [116, 101, 120, 116]) (.str X) = some (K.set i (pd X l c f du)) := (set_d (gg (o := pd T l c f du) hi) ⟨rfl, pd_nd, Nat.le_of_ble_eq_true rfl⟩).trans (congrArg some set_set)
theorem q_line (hi : i < K.length) : setIdxV (K.set i (pd T l c f du)) (.obj i) (.str [108, 105, 110, 101]) (.int x) = some (K.set i (pd T x c f du)) := (set_d (gg (o := pd T l c f du) hi) ⟨rfl, pd_nd, Nat.le_of_ble_eq_true rfl⟩).trans (congrArg some set_set)
theorem q_col (hi : i < K.length) : setIdxV (K.set i (pd T l c f du)) (.obj i) (.str [99, 111, 108, 117, 109, 110]) (.int x) = some (K.set i (pd T l x f du)) := (set_d (gg (o := pd T l c f du) hi) ⟨rfl, pd_nd, Nat.le_of_ble_eq_true rfl⟩).trans (congrArg some set_set)
theorem q_first (hi : i < K.length) : setIdxV (K.set i (pd T l c f du)) (.obj i) (.str [102, 105, 114, 115, 116]) (.bool g) = some (K.set i (pd T l c g du)) := (set_d (gg (o := pd T l c f du) hi) ⟨rfl, pd_nd, Nat.le_of_ble_eq_true rfl⟩).trans (congrArg some set_set)
theorem t_0 (hi : i < K.length) : idxV (K.set i (.list [.int a, .int b])) (.obj i) (.int 0) = some (.int a) := idx_l (gg hi) rfl
theorem t_1 (hi : i < K.length) : idxV (K.set i (.list [.int a, .int b])) (.obj i) (.int 1) = some (.int b) := idx_l (gg hi) rfl
theorem u_0 (hi : i < K.length) : setIdxV (K.set i (.list [.int a, .int b])) (.obj i) (.int 0) (.int x) = some (K.set i (.list [.int x, .int b])) := (set_l (vs := [.int a, .int b]) (gg hi) ⟨Int.le_refl 0, (by show (0 : Int) < 2; decide), Nat.le_of_ble_eq_true rfl⟩).trans (congrArg some set_set)
theorem u_1 (hi : i < K.length) : setIdxV (K.set i (.list [.int a, .int b])) (.obj i) (.int 1) (.int x) = some (K.set i (.list [.int a, .int x])) := (set_l (vs := [.int a, .int b]) (gg hi) ⟨by decide, (by show (1 : Int) < 2; decide), Nat.le_of_ble_eq_true rfl⟩).trans (congrArg some set_set)
end
section
variable {W n : Nat} {H : Hp}
theorem c_gulp {t : Nat} (T : Tr H t) {top : Nat} (ht : 0 < top) (ht2 : top < 1000) : ∃ (x : Nat) (a' b' : Int), x < top ∧ FF W (n + 2) 28 [.obj t, .int top] H = .ok (.int x) (H.set t (.list [.int a', .int b'])) := by
  obtain ⟨a, b, h⟩ := T.g
  have hi := get_lt h
  have hs : H.set t (.list [.int a, .int b]) = H := set_same h
  have p0 : (0 : Int) < (top : Int) := by omega
  have md : ∀ y : Int, binV .mod (.int y) (.int top) = some (.int (y.fmod top)) := fun y => if_neg (by omega)
  have dv : ∀ y : Int, binV .fdiv (.int y) (.int top) = some (.int (y.fdiv top)) := fun y => if_pos ⟨p0, by omega⟩
  have go : ∀ (z : Int) (o : O), 0 ≤ z → execSs (FF W (n + 1)) GV sg W p_law_gulpB [some (.obj t), some (.int top), none] (H.set t (.list [.int a, .int b])) = .ret (.int z) (H.set t o) → FF W (n + 2) 28 [.obj t, .int top] H = .ok (.int z.toNat) (H.set t o) := fun z o hz hx => by
    rw [hs] at hx
    rw [Int.toNat_of_nonneg hz]
    exact k_of (fn := p_law_gulp) (B := p_law_gulpB) (m := [some (.obj t), some (.int top), none]) rfl rfl rfl hx rfl
  cases ha : decide (a > 0) with
  | true =>
    refine ⟨(a.fmod top).toNat, a.fdiv top, b, ?_, go _ _ (Int.fmod_nonneg_of_pos a p0) ?_⟩
    · have m1 := Int.fmod_nonneg_of_pos a p0
      have m2 := Int.fmod_lt_of_pos a p0
      omega
    · repeat' (first | with_reducible exact (t_0 hi) | with_reducible exact (t_1 hi) | with_reducible exact ha | with_reducible exact (md _) | with_reducible exact (dv _) | with_reducible exact (u_0 hi) | k_updF)
  | false =>
    have m241 : binV .mul (.int b) (.int 241) = some (.int (b * 241)) := if_pos (.inr (by decide))
    refine ⟨((((b * 241 + 2003).fmod 65323).fdiv 8).fmod top).toNat, a, (b * 241 + 2003).fmod 65323, ?_, go _ _ (Int.fmod_nonneg_of_pos _ p0) ?_⟩
    · have m1 := Int.fmod_nonneg_of_pos (((b * 241 + 2003).fmod 65323).fdiv 8) p0
      have m2 := Int.fmod_lt_of_pos (((b * 241 + 2003).fmod 65323).fdiv 8) p0
      omega
    · repeat' (first | with_reducible exact (t_0 hi) | with_reducible exact (t_1 hi) | with_reducible exact ha | with_reducible exact (md _) | with_reducible exact m241 | with_reducible exact (u_1 hi) | k_updF)
theorem seq_at {l : List V} (hl : l.length ≤ 1000) {x : Nat} (hx : x < l.length) : seqAt l (x : Int) = some l[x] :=
  (seqAt_nat (Nat.le_trans hl (by decide))).trans (List.getElem?_eq_getElem hx)
theorem c_trough {zs : List Int} (hl : zs.length ≤ 63) {k : Nat} : ∃ a b : Int, FF W (n + 2) 27 [.lst (zs.map .int), .int k] H = .ok (.obj H.length) (H ++ [.list [.int a, .int b]]) := by
  have hb : (zs.map V.int).length ≤ big := by rw [List.length_map]; exact Nat.le_trans hl (by decide)
  obtain ⟨p, hp⟩ : ∃ p : Int, execS (FF W (n + 1)) GV sg W (.asg 2 (.ite (.cmp .lt (.loc 1) (.len (.loc 0))) (.idx (.loc 0) (.loc 1)) (.lit (.int 0)))) [some (.lst (zs.map .int)), some (.int k), none, none] H = .next [some (.lst (zs.map .int)), some (.int k), some (.int p), none] H := by
    by_cases hk : k < zs.length
    · have hk' : decide ((k : Int) < ((zs.map V.int).length : Int)) = true := by rw [decide_eq_true_eq, List.length_map]; omega
      have ix : idxV H (.lst (zs.map V.int)) (.int (k : Int)) = some (.int zs[k]) := (seqAt_nat hb).trans (by rw [List.getElem?_map, List.getElem?_eq_getElem hk]; rfl)
      refine ⟨zs[k], ?_⟩
      repeat' (first | with_reducible exact hb | with_reducible exact hk' | with_reducible exact ix | k_updF)
    · have hk' : decide ((k : Int) < ((zs.map V.int).length : Int)) = false := by rw [decide_eq_false_iff_not, List.length_map]; omega
      refine ⟨0, ?_⟩
      repeat' (first | with_reducible exact hb | with_reducible exact hk' | k_updF)
  obtain ⟨f, hf⟩ : ∃ f : Int, execS (FF W (n + 1)) GV sg W (.asg 3 (.ite (.cmp .ge (.loc 2) (.lit (.int 0))) (.loc 2) (.bin .sub (.lit (.int 13)) (.loc 2)))) [some (.lst (zs.map .int)), some (.int k), some (.int p), none] H = .next [some (.lst (zs.map .int)), some (.int k), some (.int p), some (.int f)] H := by
    cases h0 : decide (p ≥ 0) with
    | true => exact ⟨p, by repeat' (first | with_reducible exact h0 | k_updF)⟩
    | false => exact ⟨13 - p, by repeat' (first | with_reducible exact h0 | k_updF)⟩
  obtain ⟨Q, hQ⟩ : ∃ Q : Int, evalE (FF W (n + 1)) GV sg (.pow 10 15) [some (.lst (zs.map .int)), some (.int k), some (.int p), some (.int f)] H = .ok (.int Q) H := ⟨_, if_pos (by decide)⟩
  obtain ⟨q, hq⟩ : ∃ q : Int, evalE (FF W (n + 1)) GV sg (.ite (.cmp .ge (.loc 3) (.pow 10 15)) (.loc 3) (.lit (.int 0))) [some (.lst (zs.map .int)), some (.int k), some (.int p), some (.int f)] H = .ok (.int q) H := by
    cases h0 : decide (f ≥ Q) with
    | true => exact ⟨f, by repeat' (first | with_reducible exact hQ | with_reducible exact h0 | k_updF)⟩
    | false => exact ⟨0, by repeat' (first | with_reducible exact hQ | with_reducible exact h0 | k_updF)⟩
  have m1 : binV .mul (.int (f.fmod 999763)) (.int 311) = some (.int (f.fmod 999763 * 311)) := if_pos (.inr (by decide))
  have m2 : binV .mul (.int 127) (.int k) = some (.int (127 * k)) := rfl
  refine ⟨q, (f.fmod 999763 * 311 + 127 * k + 53).fmod 65323, ?_⟩
  refine k_of (n := n) (fn := p_law_trough) (B := p_law_troughB) (m := [some (.lst (zs.map .int)), some (.int k), none, none]) rfl rfl rfl (x := .ret (.obj H.length) (H ++ [.list [.int q, .int ((f.fmod 999763 * 311 + 127 * k + 53).fmod 65323)]])) (s_cons hp (s_cons hf ?_)) rfl
  repeat' (first | with_reducible exact hq | with_reducible exact m1 | with_reducible exact m2 | k_updF)
theorem c_menu : FF W (n + 2) 29 [] H = .ok (.lst (menuL.map fun e => .lst (e.map Wd.tup))) H := k_of (fn := p_law_menu) (B := p_law_menuB) (m := []) rfl rfl rfl (x := .ret (.lst (menuL.map fun e => .lst (e.map Wd.tup))) H) (by kernel_rfl) rfl
noncomputable def okS (s : List Nat) (H : Hp) (r : Rs V) : Prop := r = .ok (.str s) H
theorem c_source : ∀ e ∈ menuL, ∀ w ∈ e, FF W (n + 2) 30 [w.tup] H = .ok (.str w.src) H := all_cons (all_cons (by kernel_rfl) all_nil) (all_cons (all_cons (by kernel_rfl) all_nil) (all_cons (all_cons (by kernel_rfl) all_nil) (all_cons (all_cons (by kernel_rfl) all_nil) (all_cons (all_cons (by kernel_rfl) all_nil) (all_cons (all_cons (by kernel_rfl) all_nil) (all_cons (all_cons (by kernel_rfl) all_nil) (all_cons (all_cons (by kernel_rfl) all_nil) (all_cons (all_cons (by kernel_rfl) all_nil) (all_cons (all_cons (by kernel_rfl) all_nil) (all_cons (all_cons (by kernel_rfl) all_nil) (all_cons (all_cons (by kernel_rfl) all_nil) (all_cons (all_cons (by kernel_rfl) all_nil) (all_cons (all_cons (by kernel_rfl) all_nil) (all_cons (all_cons (by kernel_rfl) all_nil) (all_cons (all_cons (by kernel_rfl) all_nil) (all_cons (all_cons (by kernel_rfl) (all_cons (by kernel_rfl) all_nil)) (all_cons (all_cons (by kernel_rfl) (all_cons (by kernel_rfl) all_nil)) (all_cons (all_cons (by kernel_rfl) (all_cons (by kernel_rfl) all_nil)) (all_cons (all_cons (by kernel_rfl) (all_cons (by kernel_rfl) (all_cons (by kernel_rfl) all_nil))) (all_cons (all_cons (by kernel_rfl) all_nil) (all_cons (all_cons (by kernel_rfl) (all_cons (by kernel_rfl) all_nil)) (all_cons (all_cons (by kernel_rfl) all_nil) (all_cons (all_cons (by kernel_rfl) all_nil) (all_cons (all_cons (by kernel_rfl) all_nil) (all_cons (all_cons (by kernel_rfl) all_nil) (all_cons (all_cons (by kernel_rfl) all_nil) (all_cons (all_cons (by kernel_rfl) all_nil) (all_cons (all_cons (by kernel_rfl) all_nil) all_nil))))))))))))))))))))))))))))
theorem c_source_end : FF W (n + 2) 30 [.tup [.str sEND, .str [], .none]] H = .ok (.str []) H := by kernel_rfl
end
theorem tab_eq (c : Int) : c + 8 - (c - 1).fmod 8 = (c - 1).fdiv 8 * 8 + 8 + 1 := by
  have := Int.mul_fdiv_add_fmod (c - 1) 8
  omega
/-- where a page stands after a sign -/
noncomputable def Pg.mv1 (p : Pg) (c : Nat) : Pg := ⟨p.T, (mv (p.l, p.c) c).1, (mv (p.l, p.c) c).2, p.f || c == 10, p.due⟩
theorem mv1_fold : ∀ (t : List Nat) (p : Pg), t.foldl Pg.mv1 p = ⟨p.T, (t.foldl mv (p.l, p.c)).1, (t.foldl mv (p.l, p.c)).2, p.f || t.contains 10, p.due⟩
  | [], p => by rw [List.contains_nil, Bool.or_false]; rfl
  | c :: r, p => by
    rw [List.foldl_cons, mv1_fold r]
    show Pg.mk p.T _ _ ((p.f || c == 10) || r.contains 10) p.due = _
    rw [List.contains_cons, Bool.or_assoc, show (10 == c) = (c == 10) from Bool.beq_comm ..]; rfl
section
variable {W n : Nat} {H : Hp}
theorem one_eq {c d : Nat} : ([c] == [d]) = (c == d) := by
  cases h : (c == d) with
  | true => rw [beq_iff_eq.mp h]; exact beq_iff_eq.mpr rfl
  | false => rw [beq_eq_false_iff_ne] at h ⊢; exact fun e => h (List.cons.inj e).1
theorem go_body {pg du : Nat} (hi : pg < H.length) (p : Pg) (t : List Nat) (c : Nat) :
    execSs (FF W n) GV sg W p_law_go_L1 [some (.obj pg), some (.str t), some (.str [c])] (H.set pg (p.o du)) = .next [some (.obj pg), some (.str t), some (.str [c])] (H.set pg ((p.mv1 c).o du)) := by
  cases b10 : (c == 10) with
  | true =>
    have e1 : ([c] == [10]) = true := one_eq.trans b10
    have eo : (p.mv1 c).o du = pd p.T (p.l + 1) 1 true du := by unfold Pg.mv1; rw [b10, beq_iff_eq.mp b10, Bool.or_true]; rfl
    rw [eo]
    repeat' (first | with_reducible exact e1 | with_reducible exact (j_line hi) | with_reducible exact (q_line hi) | with_reducible exact (q_col hi) | with_reducible exact (q_first hi) | k_updF)
  | false =>
    have e1 : ([c] == [10]) = false := one_eq.trans b10
    cases b9 : (c == 9) with
    | true =>
      have e2 : ([c] == [9]) = true := one_eq.trans b9
      have eo : (p.mv1 c).o du = pd p.T p.l (p.c + 8 - (p.c - 1).fmod 8) p.f du := by unfold Pg.mv1; rw [tab_eq, beq_iff_eq.mp b9]; show pd _ _ _ (p.f || false) _ = _; rw [Bool.or_false]; rfl
      rw [eo]
      repeat' (first | with_reducible exact e1 | with_reducible exact e2 | with_reducible exact (j_col hi) | with_reducible exact (q_col hi) | k_updF)
    | false =>
      have e2 : ([c] == [9]) = false := one_eq.trans b9
      have em : mv (p.l, p.c) c = (p.l, p.c + 1) := (if_neg (beq_eq_false_iff_ne.mp b10)).trans (if_neg (beq_eq_false_iff_ne.mp b9))
      have eo : (p.mv1 c).o du = pd p.T p.l (p.c + 1) p.f du := by unfold Pg.mv1; rw [em, b10, Bool.or_false]
      rw [eo]
      repeat' (first | with_reducible exact e1 | with_reducible exact e2 | with_reducible exact (j_col hi) | with_reducible exact (q_col hi) | k_updF)
theorem go_loop {pg du : Nat} (hi : pg < H.length) {t : List Nat} : ∀ (r : List Nat) (p : Pg) (x : Option V), ∃ x',
    loopF (fun m v => some (setL m 2 v)) (fun m H => execSs (FF W n) GV sg W p_law_go_L1 m H) (r.map fun c => .str [c]) [some (.obj pg), some (.str t), x] (H.set pg (p.o du)) = .next [some (.obj pg), some (.str t), x'] (H.set pg ((r.foldl Pg.mv1 p).o du))
  | [], p, x => ⟨x, rfl⟩
  | c :: r, p, x => by
    obtain ⟨x', e⟩ := go_loop hi (t := t) r (p.mv1 c) (some (.str [c]))
    exact ⟨x', lf_cons rfl (go_body hi p t c) e⟩
theorem c_go {pg du : Nat} {p : Pg} (h : H[pg]? = some (p.o du)) {t : List Nat} (ht : p.T.length + t.length ≤ 100000) : FF W (n + 2) 31 [.obj pg, .str t] H = .ok .none (H.set pg ((p.go t).o du)) := by
  have hi := get_lt h
  have ht1 : p.T.length + t.length ≤ big := Nat.le_trans ht (by decide)
  have bt : binV .add (.str p.T) (.str t) = some (.str (p.T ++ t)) := if_pos ht1
  have it : itemsF (.str t) = some (t.map fun c => .str [c]) := if_pos (Nat.le_trans (Nat.le_add_left _ _) ht1)
  obtain ⟨x', e⟩ := go_loop (W := W) (n := n + 1) hi (du := du) (t := t) t (⟨p.T ++ t, p.l, p.c, p.f, p.due⟩ : Pg) none
  rw [mv1_fold] at e
  have hs : H.set pg (p.o du) = H := set_same h
  have hx : execSs (FF W (n + 1)) GV sg W p_law_goB [some (.obj pg), some (.str t), none] (H.set pg (p.o du)) = .next [some (.obj pg), some (.str t), x'] (H.set pg ((p.go t).o du)) := by
    repeat' (first | with_reducible exact (j_text hi) | with_reducible exact bt | with_reducible exact (q_text hi) | with_reducible exact it | exact e | k_updF)
  rw [hs] at hx
  exact k_of (n := n) (fn := p_law_go) (B := p_law_goB) (m := [some (.obj pg), some (.str t), none]) rfl rfl rfl hx rfl
theorem c_goPS {pg du : Nat} {p : Pg} (P : PS H pg du p) {t : List Nat} (ht : p.T.length + t.length ≤ 100000) : ∃ o, FF W (n + 2) 31 [.obj pg, .str t] H = .ok .none (H.set pg o) ∧ PS (H.set pg o) pg du (p.go t) :=
  ⟨_, c_go P.hp ht, set_get P.hp, by rw [List.getElem?_set_ne P.ne]; exact P.hd, P.ne⟩
/-- a word laid down -/
theorem c_add {pg du : Nat} {p : Pg} (P : PS H pg du p) {w : Wd} (hs : ∀ H, FF W (n + 2) 30 [w.tup] H = .ok (.str w.src) H) (ht : p.T.length + w.src.length ≤ 100000) (hd : p.due.length < 1000) :
    ∃ o1 o2, FF W (n + 3) 32 [.obj pg, w.tup] H = .ok .none ((H.set du o1).set pg o2) ∧ PS ((H.set du o1).set pg o2) pg du (p.add w) := by
  have hp2 : (H.set du (.list ((p.due ++ [(⟨w.kd, w.tx, w.v, p.l, p.c, p.f⟩ : Rec)]).map Rec.tup)))[pg]? = some (p.o du) := by rw [List.getElem?_set_ne (Ne.symm P.ne)]; exact P.hp
  refine ⟨.list ((p.due ++ [(⟨w.kd, w.tx, w.v, p.l, p.c, p.f⟩ : Rec)]).map Rec.tup), (p.add w).o du, ?_, set_get hp2, ?_, P.ne⟩
  · have cg := c_go (W := W) (n := n) hp2 (t := w.src) ht
    have il : isListV H (.obj du) = true := by
      show (match H[du]? with | some (.list _) => true | _ => false) = true
      rw [P.hd]
    have ap : appendV H (.obj du) (.tup ([.str w.kd, .str w.tx, w.v] ++ [.int p.l, .int p.c, .bool p.f])) = .ok .none (H.set du (.list ((p.due ++ [(⟨w.kd, w.tx, w.v, p.l, p.c, p.f⟩ : Rec)]).map Rec.tup))) := by
      show (match H[du]? with | some (.list us) => (if us.length < big then Rs.ok V.none (H.set du (.list (us ++ [V.tup [.str w.kd, .str w.tx, w.v, .int p.l, .int p.c, .bool p.f]]))) else .stuck) | _ => .stuck) = _
      rw [P.hd]
      refine (if_pos (by rw [List.length_map]; exact Nat.lt_trans hd (by decide))).trans ?_
      rw [List.map_append]; rfl
    have ba : binV .add w.tup (.tup [.int p.l, .int p.c, .bool p.f]) = some (.tup ([.str w.kd, .str w.tx, w.v] ++ [.int p.l, .int p.c, .bool p.f])) := rfl
    have i1 : idxV H (.obj pg) (.str [100, 117, 101]) = some (.obj du) := idx_d P.hp rfl
    have i2 : idxV H (.obj pg) (.str [108, 105, 110, 101]) = some (.int p.l) := idx_d P.hp rfl
    have i3 : idxV H (.obj pg) (.str [99, 111, 108, 117, 109, 110]) = some (.int p.c) := idx_d P.hp rfl
    have i4 : idxV H (.obj pg) (.str [102, 105, 114, 115, 116]) = some (.bool p.f) := idx_d P.hp rfl
    have hi2 := get_lt hp2
    refine k_of (n := n + 1) (fn := p_law_add) (B := p_law_addB) (m := [some (.obj pg), some w.tup]) rfl rfl rfl (x := .next [some (.obj pg), some w.tup] ((H.set du (.list ((p.due ++ [(⟨w.kd, w.tx, w.v, p.l, p.c, p.f⟩ : Rec)]).map Rec.tup))).set pg ((p.add w).o du))) ?_ rfl
    repeat' (first | with_reducible exact i1 | with_reducible exact i2 | with_reducible exact i3 | with_reducible exact i4 | with_reducible exact il | with_reducible exact ba | with_reducible exact ap | with_reducible exact (hs _) | with_reducible exact cg | with_reducible exact (q_first hi2) | k_updF)
  · rw [List.getElem?_set_ne P.ne, set_get P.hd]; rfl
noncomputable def gapE : Exs := match p_law_gapB with
  | .cons (.ret (.idx (.lst es) _)) _ => es
  | _ => .nil
theorem gap_items {F : Fns} {m : Loc} : evalEs F GV sg gapE m H = .ok (gapL.map .str) H := rfl
theorem c_gap {t : Nat} (T : Tr H t) : ∃ (g : List Nat) (a b : Int), g ∈ gapL ∧ FF W (n + 3) 33 [.obj t] H = .ok (.str g) (H.set t (.list [.int a, .int b])) := by
  obtain ⟨x, a, b, hx, e⟩ := c_gulp (W := W) (n := n) T (top := 12) (by decide) (by decide)
  have hx' : x < gapL.length := hx
  refine ⟨gapL[x], a, b, List.getElem_mem hx', ?_⟩
  have sq := seq_at (l := gapL.map .str) (by decide) (x := x) (by rw [List.length_map]; exact hx')
  rw [List.getElem_map] at sq
  exact k_of (n := n + 1) (fn := p_law_gap) (B := .cons (.ret (.idx (.lst gapE) (.call 28 (.cons (.loc 0) (.cons (.lit (.int 12)) .nil))))) .nil) (m := [some (.obj t)]) rfl rfl rfl (s_cons (s_ret (r_idx (r_lst gap_items) (r_call (r_cons loc0 (r_cons r_liti r_nil)) e) sq) q_ret) t_ret) rfl
noncomputable def spE : Exs := match p_law_spoiltB with
  | .cons (.ret (.idx (.lst es) _)) _ => es
  | _ => .nil
theorem sp_items {F : Fns} {m : Loc} : evalEs F GV sg spE m H = .ok (spoiltL.map fun s => .tup [.str s.1, .int s.2]) H := rfl
theorem c_spoilt {t : Nat} (T : Tr H t) : ∃ (s : List Nat × Nat) (a b : Int), s ∈ spoiltL ∧ FF W (n + 3) 35 [.obj t] H = .ok (.tup [.str s.1, .int s.2]) (H.set t (.list [.int a, .int b])) := by
  obtain ⟨x, a, b, hx, e⟩ := c_gulp (W := W) (n := n) T (top := 12) (by decide) (by decide)
  have hx' : x < spoiltL.length := hx
  refine ⟨spoiltL[x], a, b, List.getElem_mem hx', ?_⟩
  have sq := seq_at (l := spoiltL.map fun s => V.tup [.str s.1, .int s.2]) (by rw [List.length_map]; decide) (x := x) (by rw [List.length_map]; exact hx')
  rw [List.getElem_map] at sq
  exact k_of (n := n + 1) (fn := p_law_spoilt) (B := .cons (.ret (.idx (.lst spE) (.call 28 (.cons (.loc 0) (.cons (.lit (.int 12)) .nil))))) .nil) (m := [some (.obj t)]) rfl rfl rfl (s_cons (s_ret (r_idx (r_lst sp_items) (r_call (r_cons loc0 (r_cons r_liti r_nil)) e) sq) q_ret) t_ret) rfl
end
end
-- Q18
section
section
variable {W n : Nat}
theorem add_loop {e : List Wd} (he : e ∈ menuL) {t pg du : Nat} (h1 : t ≠ pg) (h2 : t ≠ du) {mn tv : Option V} : ∀ (ws : List Wd) (p : Pg) (H : Hp) (x : Option V), (∀ w ∈ ws, w ∈ e) → PS H pg du p → Tr H t →
    p.T.length + (srcs ws).length ≤ 100000 → p.due.length + ws.length < 1000 → ∃ x' H', 
    loopF (fun m v => some (setL m 4 v)) (fun m H => execSs (FF W (n + 3)) GV sg W p_law_page_L1 m H) (ws.map Wd.tup) [some (.obj t), some (.obj pg), mn, tv, x] H = .next [some (.obj t), some (.obj pg), mn, tv, x'] H' ∧
      PS H' pg du (ws.foldl Pg.add p) ∧ Tr H' t
  | [], p, H, x, _, P, T, _, _ => ⟨x, H, rfl, P, T⟩
  | w :: r, p, H, x, hw, P, T, ht, hd => by
    have hsz : p.T.length + (w.src.length + (srcs r).length) ≤ 100000 := by
      have : (srcs (w :: r)).length = w.src.length + (srcs r).length := List.length_append
      rw [← this]; exact ht
    have hdl : p.due.length + (r.length + 1) < 1000 := hd
    obtain ⟨o1, o2, e1, P'⟩ := c_add (W := W) (n := n) P (fun H => c_source (H := H) e he w (hw w (List.mem_cons_self ..))) (by omega) (by omega)
    have T' : Tr ((H.set du o1).set pg o2) t := (T.set (Ne.symm h2)).set (Ne.symm h1)
    obtain ⟨x', H', e2, P2, T2⟩ := add_loop he h1 h2 r (p.add w) _ (some w.tup) (fun y hy => hw y (List.mem_cons_of_mem _ hy)) P' T' (by
      show (p.T ++ w.src).length + _ ≤ _
      rw [List.length_append]; omega) (by
      show (p.due ++ [_]).length + _ < _
      rw [List.length_append]; simp only [List.length_cons, List.length_nil]; omega)
    have hb : execSs (FF W (n + 3)) GV sg W p_law_page_L1 [some (.obj t), some (.obj pg), mn, tv, some w.tup] H = .next [some (.obj t), some (.obj pg), mn, tv, some w.tup] ((H.set du o1).set pg o2) := by
      repeat' (first | with_reducible exact e1 | k_updF)
    exact ⟨x', H', lf_cons rfl hb e2, P2, T2⟩
noncomputable def menuV : V := .lst (menuL.map fun e => .lst (e.map Wd.tup))
theorem turn_body {t pg du : Nat} (h1 : t ≠ pg) (h2 : t ≠ du) {tv x : Option V} {j : Nat} {p : Pg} {H : Hp} (b : BP j p) (hj : j ≤ 10) (P : PS H pg du p) (T : Tr H t) : ∃ x' H' p',
    execSs (FF W (n + 3)) GV sg W p_law_page_L2 [some (.obj t), some (.obj pg), some menuV, tv, x] H = .next [some (.obj t), some (.obj pg), some menuV, tv, x'] H' ∧ BP (j + 1) p' ∧ PS H' pg du p' ∧ Tr H' t := by
  obtain ⟨i, a, b', hi, e1⟩ := c_gulp (W := W) (n := n + 1) T (top := 29) (by decide) (by decide)
  have hi' : i < menuL.length := hi
  have he : menuL[i] ∈ menuL := List.getElem_mem hi'
  generalize hee : menuL[i] = e at he
  have P1 := P.set (o := O.list [.int a, .int b']) h1 h2
  have T1 : Tr (H.set t (.list [.int a, .int b'])) t := T.new
  have sz := bp_sz b
  have ms := menu_sz e he
  obtain ⟨x', H', e2, P2, T2⟩ := add_loop (W := W) (n := n) he h1 h2 (mn := some menuV) (tv := tv) e p _ x (fun w h => h) P1 T1 (by omega) (by omega)
  obtain ⟨g, a2, b2, hg, e3⟩ := c_gap (W := W) (n := n) T2
  have P3 := P2.set (o := O.list [.int a2, .int b2]) h1 h2
  have T3 : Tr (H'.set t (.list [.int a2, .int b2])) t := T2.new
  have gs := gap_sz g hg
  obtain ⟨o, e4, P4⟩ := c_goPS (W := W) (n := n + 1) P3 (t := g) (by rw [adds_T, List.length_append]; omega)
  refine ⟨x', _, _, ?_, .turn b he hg, P4, T3.set (Ne.symm h1)⟩
  have ix : ∀ H, idxV H menuV (.int (i : Int)) = some (.lst (e.map Wd.tup)) := fun H => by
    have := seq_at (l := menuL.map fun e => V.lst (e.map Wd.tup)) (by rw [List.length_map]; decide) (x := i) (by rw [List.length_map]; exact hi')
    rw [List.getElem_map, hee] at this
    exact this
  have it : itemsF (.lst (e.map Wd.tup)) = some (e.map Wd.tup) := if_pos (by rw [List.length_map]; exact Nat.le_trans ms.1 (by decide))
  repeat' (first | exact e1 | with_reducible exact (ix _) | with_reducible exact it | exact e2 | with_reducible exact e3 | with_reducible exact e4 | k_updF)
theorem turn_loop2 {t pg du : Nat} (h1 : t ≠ pg) (h2 : t ≠ du) : ∀ (ks : List Nat) (j : Nat) (p : Pg) (H : Hp) (tv x : Option V), BP j p → j + ks.length ≤ 10 → PS H pg du p → Tr H t → ∃ tv' x' H' p',
    loopF (fun m v => some (setL m 3 v)) (fun m H => execSs (FF W (n + 3)) GV sg W p_law_page_L2 m H) (ks.map fun (k : Nat) => V.int k) [some (.obj t), some (.obj pg), some menuV, tv, x] H =
      .next [some (.obj t), some (.obj pg), some menuV, tv', x'] H' ∧ BP (j + ks.length) p' ∧ PS H' pg du p' ∧ Tr H' t
  | [], j, p, H, tv, x, b, _, P, T => ⟨tv, x, H, p, rfl, b, P, T⟩
  | k :: r, j, p, H, tv, x, b, hj, P, T => by
    have hj' : j + (r.length + 1) ≤ 10 := hj
    obtain ⟨x1, H1, p1, e1, b1, P1, T1⟩ := turn_body (W := W) (n := n) h1 h2 (tv := some (.int k)) (x := x) b (by omega) P T
    obtain ⟨tv', x', H', p', e2, b2, P2, T2⟩ := turn_loop2 h1 h2 r (j + 1) p1 H1 (some (.int k)) x1 b1 (by omega) P1 T1
    exact ⟨tv', x', H', p', lf_cons rfl e1 e2, by rw [List.length_cons, show j + (r.length + 1) = j + 1 + r.length by omega]; exact b2, P2, T2⟩
theorem c_page {H : Hp} {t : Nat} (T : Tr H t) : ∃ H' pg du k p, FF W (n + 4) 34 [.obj t] H = .ok (.obj pg) H' ∧ k ≤ 4 ∧ BP k p ∧ PS H' pg du p ∧ Tr H' t ∧ t ≠ pg ∧ t ≠ du := by
  have hlt : t < H.length := by obtain ⟨_, _, h⟩ := T.g; exact get_lt h
  have el : (H ++ [O.list []]).length = H.length + 1 := by rw [List.length_append]; rfl
  have P : PS (H ++ [O.list []] ++ [Pg.zero.o H.length]) (H.length + 1) H.length Pg.zero := ⟨by rw [← el, List.getElem?_append_right (Nat.le_refl _), Nat.sub_self]; rfl, by rw [List.getElem?_append_left (by rw [el]; exact Nat.lt_succ_self _), List.getElem?_append_right (Nat.le_refl _), Nat.sub_self]; rfl, Nat.succ_ne_self _⟩
  have T1 : Tr (H ++ [O.list []] ++ [Pg.zero.o H.length]) t := by
    obtain ⟨a, b, h⟩ := T.g
    exact ⟨a, b, by rw [List.append_assoc, List.getElem?_append_left hlt]; exact h⟩
  obtain ⟨k, a, b', hk, e1⟩ := c_gulp (W := W) (n := n + 1) T1 (top := 5) (by decide) (by decide)
  have h1 : t ≠ H.length + 1 := by omega
  have h2 : t ≠ H.length := by omega
  have P2 := P.set (o := O.list [.int a, .int b']) h1 h2
  obtain ⟨tv', x', H', p', e2, b2, P3, T3⟩ := turn_loop2 (W := W) (n := n) h1 h2 (List.range k) 0 Pg.zero _ none none .zero (by rw [List.length_range]; omega) P2 (T1.new (a := a) (b := b'))
  rw [List.length_range, Nat.zero_add] at b2
  refine ⟨H', _, _, k, p', ?_, by omega, b2, P3, T3, h1, h2⟩
  have cm : ∀ H, FF W (n + 3) 29 [] H = .ok menuV H := fun H => c_menu (n := n + 1)
  have kb : (0 : Int) ≤ (k : Int) ∧ (k : Int) ≤ (big : Int) := ⟨Int.natCast_nonneg _, by have : (5 : Nat) ≤ big := by decide
                                                                                         omega⟩
  have md : execS (FF W (n + 3)) GV sg W (.asg 1 (.mdct [[116, 101, 120, 116], [108, 105, 110, 101], [99, 111, 108, 117, 109, 110], [102, 105, 114, 115, 116], [100, 117, 101]] (.cons (.lit (.str [])) (.cons (.lit (.int 1)) (.cons (.lit (.int 1)) (.cons (.lit (.bool true)) (.cons (.mlst .nil) .nil))))))) [some (.obj t), none, none, none, none] H = .next [some (.obj t), some (.obj (H.length + 1)), none, none, none] (H ++ [O.list []] ++ [Pg.zero.o H.length]) := by
    rw [← el]
    exact s_asg (r_mdct (r_cons r_lits (r_cons r_liti (r_cons r_liti (r_cons r_litb (r_cons (r_mlst r_nil) r_nil)))))) rfl
  refine k_of (n := n + 2) (fn := p_law_page) (B := p_law_pageB) (m := [some (.obj t), none, none, none, none]) rfl rfl rfl (x := .ret (.obj (H.length + 1)) H') (s_cons md ?_) rfl
  repeat' (first | with_reducible exact (cm _) | exact e1 | with_reducible exact kb | exact e2 | k_updF)
end
theorem sames_of {l : List V} (h : ∀ v ∈ l, same v v = true) : sames l l = true := by
  induction l with
  | nil => rfl
  | cons a r ih => exact Bool.and_eq_true_iff.mpr ⟨h a (List.mem_cons_self ..), ih fun v hv => h v (List.mem_cons_of_mem _ hv)⟩
theorem same_refl : ∀ (k : Nat) (v : V), plain k v = true → same v v = true
  | _, .none, _ => rfl
  | _, .bool _, _ => beq_self_eq_true _
  | _, .int _, _ => beq_self_eq_true _
  | _, .str _, _ => beq_self_eq_true _
  | 0, .tup _, h => absurd h Bool.false_ne_true
  | 0, .lst _, h => absurd h Bool.false_ne_true
  | k + 1, .tup _, h => sames_of fun v hv => same_refl k v (List.all_eq_true.mp h v hv)
  | k + 1, .lst _, h => sames_of fun v hv => same_refl k v (List.all_eq_true.mp h v hv)
  | _, .obj _, h => absurd h Bool.false_ne_true
  | _, .inst _ _, h => absurd h Bool.false_ne_true
  | _, .glob _, h => absurd h Bool.false_ne_true
  | _, .dct _, h => absurd h Bool.false_ne_true
theorem eqD_of {H : Hp} {v w : V} (h1 : plain 3 (opened H v) = true) (h2 : opened H w = opened H v) : (eqD H v w).map (!·) = some false :=
  congrArg (Option.map (!·)) (show eqD H v w = some true from if_pos (Bool.and_eq_true_iff.mpr ⟨h1, by rw [h2]; exact same_refl 3 _ h1⟩))
theorem plain_rec {kd tx : List Nat} {v : V} {l c : Int} {f : Bool} (h1 : isStrs kd = true) (h2 : isStrs tx = true) (h3 : plain 1 v = true) : plain 2 (Rec.tup ⟨kd, tx, v, l, c, f⟩) = true := by
  show (isStrs kd && (isStrs tx && (plain 1 v && (true && (true && (true && true)))))) = true
  rw [h1, h2, h3]; rfl
theorem menu_plain : ∀ e ∈ menuL, ∀ w ∈ e, isStrs w.kd = true ∧ isStrs w.tx = true ∧ plain 1 w.v = true := by decide +kernel
theorem adds_plain : ∀ (e : List Wd) (p : Pg), (∀ w ∈ e, isStrs w.kd = true ∧ isStrs w.tx = true ∧ plain 1 w.v = true) → (∀ r ∈ p.due, plain 2 r.tup = true) → ∀ r ∈ (e.foldl Pg.add p).due, plain 2 r.tup = true
  | [], p, _, h => h
  | w :: e, p, hw, h => by
    refine adds_plain e (p.add w) (fun y hy => hw y (List.mem_cons_of_mem _ hy)) ?_
    intro r hr
    have hr' : r ∈ p.due ++ [⟨w.kd, w.tx, w.v, p.l, p.c, p.f⟩] := hr
    rcases List.mem_append.mp hr' with hr | hr
    · exact h r hr
    · cases List.mem_singleton.mp hr
      obtain ⟨a, b, c⟩ := hw w (List.mem_cons_self ..)
      exact plain_rec a b c
theorem bp_plain {k : Nat} {p : Pg} (b : BP k p) : ∀ r ∈ p.due, plain 2 r.tup = true := by
  induction b with
  | zero => intro r hr; cases hr
  | @turn k p e g b he hg ih => exact adds_plain e p (menu_plain e he) ih
theorem ne_pair (H : Hp) (a b : Int) : cmpV H .ne (.tup [.int a, .int b]) (.tup [.int a, .int b]) = some false := eqD_of (v := .tup [.int a, .int b]) (w := .tup [.int a, .int b]) rfl rfl
theorem ne_due {H : Hp} {du : Nat} {recs : List Rec} (h : H[du]? = some (.list (recs.map Rec.tup))) (hp : ∀ r ∈ recs, plain 2 r.tup = true) : cmpV H .ne (.lst (recs.map Rec.tup)) (.obj du) = some false :=
  eqD_of (v := .lst (recs.map Rec.tup)) (w := .obj du) (List.all_eq_true.mpr fun v hv => by
    obtain ⟨r, hr, e⟩ := List.mem_map.mp hv
    rw [← e]; exact hp r hr) (congrArg (openO du) h)
noncomputable def T1 : List Nat := [97, 32, 45, 45, 62, 32, 98, 10, 45, 45, 32, 99, 10, 45, 45, 45, 32, 100]
noncomputable def R1 : List Rec := [⟨sVAR, [97], .none, 1, 1, true⟩, ⟨[118, 97, 114, 115, 121, 109], [45, 45, 62], .none, 1, 3, false⟩, ⟨sVAR, [98], .none, 1, 7, false⟩, ⟨sEND, [], .none, 3, 6, true⟩]
theorem w1 : wlF T1 = some (.ok R1) := by kernel_rfl
theorem w2 : wlF [9, 39] = some (.err 1 9) := by kernel_rfl
section
variable {W n : Nat}
noncomputable def tlE : Exs := .cons (.lit (.str [])) (.cons (.lit (.str [45, 45, 32, 108, 97, 115, 116])) (.cons (.lit (.str [123, 45, 32, 45, 125])) (.cons (.lit (.str [45, 45])) .nil)))
theorem tl_items {F : Fns} {m : Loc} {H : Hp} : evalEs F GV sg tlE m H = .ok (tailL.map .str) H := rfl
theorem bad_sz : ∀ s ∈ spoiltL, s.1.length ≤ 50 := by decide
theorem tail_sz : ∀ s ∈ tailL, s.length ≤ 50 := by decide
theorem law_turn (hW : W = 1001) {zs : List Int} (hl : zs.length ≤ 63) (k : Nat) (H : Hp) (x2 x3 x4 x5 x6 x7 x8 : Option V) : ∃ y2 y3 y4 y5 y6 y7 y8 H',
    execSs (FF W (n + 12)) GV sg W p_law_L1 [some (.lst (zs.map .int)), some (.int k), x2, x3, x4, x5, x6, x7, x8] H = .next [some (.lst (zs.map .int)), some (.int k), y2, y3, y4, y5, y6, y7, y8] H' := by
  obtain ⟨a, b, e1⟩ := c_trough (W := W) (n := n + 10) (H := H) hl (k := k)
  have T1 : Tr (H ++ [O.list [.int a, .int b]]) H.length := ⟨a, b, by simp⟩
  obtain ⟨H2, pg, du, j, p, e2, hj, bp, P2, T2, h1, h2⟩ := c_page (W := W) (n := n + 8) T1
  have sz := bp_sz bp
  obtain ⟨s, a3, b3, hs, e3⟩ := c_spoilt (W := W) (n := n + 9) T2
  have P3 := P2.set (o := O.list [.int a3, .int b3]) h1 h2
  have T3 : Tr (H2.set H.length (.list [.int a3, .int b3])) H.length := ⟨a3, b3, by obtain ⟨_, _, h⟩ := T2.g; exact set_get h⟩
  generalize hH3 : H2.set H.length (.list [.int a3, .int b3]) = H3 at *
  have bz := bad_sz s hs
  have wb : wlF (p.T ++ s.1) = some (.err p.l (p.c + (s.2 : Int))) := by
    obtain ⟨pend, f, σ, b', hg, L⟩ := bp_li bp (by omega) _ s.1 rfl
    exact li_bad L hg (bad _ hs) (by omega)
  obtain ⟨H4, e4, fr4⟩ := k_told (W := W) (n := n) (B := H3) hW (T := p.T ++ s.1) (by rw [List.length_append]; omega) wb
  rw [toldV] at e4
  have P4 : PS H4 pg du p := ⟨by rw [fr4 _ (get_lt P3.hp)]; exact P3.hp, by rw [fr4 _ (get_lt P3.hd)]; exact P3.hd, P3.ne⟩
  have T4 : Tr H4 H.length := by obtain ⟨u, v, h⟩ := T3.g; exact ⟨u, v, by rw [fr4 _ (get_lt h)]; exact h⟩
  obtain ⟨x, a5, b5, hx, e5⟩ := c_gulp (W := W) (n := n + 10) T4 (top := 4) (by decide) (by decide)
  have P5 := P4.set (o := O.list [.int a5, .int b5]) h1 h2
  have hx' : x < tailL.length := hx
  have ht : tailL[x] ∈ tailL := List.getElem_mem hx'
  have ix : ∀ H, idxV H (.lst (tailL.map .str)) (.int (x : Int)) = some (.str tailL[x]) := fun H => by
    have := seq_at (l := tailL.map V.str) (by decide) (x := x) (by rw [List.length_map]; exact hx')
    rw [List.getElem_map] at this
    exact this
  generalize htl : tailL[x] = t at ht ix
  have tz := tail_sz t ht
  obtain ⟨o6, e6, P6⟩ := c_goPS (W := W) (n := n + 10) P5 (t := t) (by omega)
  obtain ⟨o7, o8, e7, P7⟩ := c_add (W := W) (n := n + 9) P6 (w := ⟨sEND, [], .none, []⟩) (fun H => c_source_end) (by
    show (p.T ++ t).length + 0 ≤ _
    rw [List.length_append]; omega) (by show p.due.length < _; omega)
  generalize hH7 : ((((H4.set H.length (.list [.int a5, .int b5])).set pg o6).set du o7).set pg o8) = H7 at *
  have we : wlF ((p.go t).add ⟨sEND, [], .none, []⟩).T = some (.ok ((p.go t).add ⟨sEND, [], .none, []⟩).due) := by
    obtain ⟨pend, f, σ, b', hg, L⟩ := bp_li bp (by omega) _ t rfl
    have := li_end L hg ht (by omega)
    show wlF ((p.T ++ t) ++ []) = _
    rw [List.append_nil, this]; rfl
  obtain ⟨H8, e8, fr8⟩ := k_told (W := W) (n := n) (B := H7) hW (T := ((p.go t).add ⟨sEND, [], .none, []⟩).T) (by
    show ((p.T ++ t) ++ []).length ≤ _
    rw [List.append_nil, List.length_append]; omega) we
  rw [toldV] at e8
  have P8 : PS H8 pg du ((p.go t).add ⟨sEND, [], .none, []⟩) := ⟨by rw [fr8 _ (get_lt P7.hp)]; exact P7.hp, by rw [fr8 _ (get_lt P7.hd)]; exact P7.hd, P7.ne⟩
  have nd := ne_due P8.hd (by
    intro r hr
    have hr' : r ∈ p.due ++ [⟨sEND, [], .none, _, _, _⟩] := hr
    rcases List.mem_append.mp hr' with hr | hr
    · exact bp_plain bp r hr
    · cases List.mem_singleton.mp hr
      exact plain_rec rfl rfl rfl)
  have wt : Wd.tup ⟨sEND, [], .none, []⟩ = .tup [.str [101, 110, 100], .str [], .none] := rfl
  rw [wt] at e7
  rw [show ((4 : Nat) : Int) = 4 from rfl] at e5
  have ba : binV .add (.str p.T) (.str s.1) = some (.str (p.T ++ s.1)) := if_pos (Nat.le_trans (show _ ≤ 1000 by omega) (by decide))
  have i1 : idxV H2 (.obj pg) (.str [116, 101, 120, 116]) = some (.str p.T) := idx_d P2.hp rfl
  have i2 : idxV H2 (.obj pg) (.str [108, 105, 110, 101]) = some (.int p.l) := idx_d P2.hp rfl
  have i3 : idxV H2 (.obj pg) (.str [99, 111, 108, 117, 109, 110]) = some (.int p.c) := idx_d P2.hp rfl
  have i7 : idxV H7 (.obj pg) (.str [116, 101, 120, 116]) = some (.str ((p.go t).add ⟨sEND, [], .none, []⟩).T) := idx_d P7.hp rfl
  have i8 : idxV H8 (.obj pg) (.str [100, 117, 101]) = some (.obj du) := idx_d P8.hp rfl
  generalize ((p.go t).add ⟨sEND, [], .none, []⟩) = q at *
  have nep := fun H => ne_pair H p.l (p.c + (s.2 : Int))
  have ix' : ∀ H, idxV H (.lst [V.str [], V.str [45, 45, 32, 108, 97, 115, 116], V.str [123, 45, 32, 45, 125], V.str [45, 45]]) (.int (x : Int)) = some (.str t) := ix
  refine ⟨some (.obj H.length), some (.obj pg), some (.str p.T), some (.int p.l), some (.int p.c), some (.str s.1), some (.int s.2), H8, ?_⟩
  repeat' (first | with_reducible exact e1 | with_reducible exact e2 | with_reducible exact i1 | with_reducible exact i2 | with_reducible exact i3 | with_reducible exact e3 | with_reducible exact ba | with_reducible exact e4 | with_reducible exact (nep _) | with_reducible exact e5 | with_reducible exact (ix' _) | with_reducible exact e6 | with_reducible exact e7 | with_reducible exact i7 | with_reducible exact e8 | with_reducible exact i8 | with_reducible exact nd | k_updF)
theorem law_loop (hW : W = 1001) {zs : List Int} (hl : zs.length ≤ 63) : ∀ (ks : List Nat) (H : Hp) (x1 x2 x3 x4 x5 x6 x7 x8 : Option V), ∃ m' H',
    loopF (fun m v => some (setL m 1 v)) (fun m H => execSs (FF W (n + 12)) GV sg W p_law_L1 m H) (ks.map fun (k : Nat) => V.int k) [some (.lst (zs.map .int)), x1, x2, x3, x4, x5, x6, x7, x8] H = .next m' H'
  | [], H, _, _, _, _, _, _, _, _ => ⟨_, _, rfl⟩
  | k :: r, H, x1, x2, x3, x4, x5, x6, x7, x8 => by
    obtain ⟨y2, y3, y4, y5, y6, y7, y8, H1, e1⟩ := law_turn (W := W) (n := n) hW hl k H x2 x3 x4 x5 x6 x7 x8
    obtain ⟨m', H', e2⟩ := law_loop hW hl r H1 (some (.int k)) y2 y3 y4 y5 y6 y7 y8
    exact ⟨m', H', lf_cons rfl e1 e2⟩
theorem law_true (hW : W = 1001) {zs : List Int} (hl : zs.length ≤ 63) : ∃ H', execSs (FF W (n + 12)) GV sg W p_lawB [some (.lst (zs.map .int)), none, none, none, none, none, none, none, none] [] = .ret (.bool true) H' := by
  obtain ⟨H1, e1, _⟩ := k_told (W := W) (n := n) (B := []) hW (T := T1) (by decide) w1
  obtain ⟨H2, e2, _⟩ := k_told (W := W) (n := n) (B := H1) hW (T := [9, 39]) (by decide) w2
  have e1 : FF W (n + 12) 36 [.str [97, 32, 45, 45, 62, 32, 98, 10, 45, 45, 32, 99, 10, 45, 45, 45, 32, 100]] [] = .ok (.lst (R1.map Rec.tup)) H1 := e1
  have e2 : FF W (n + 12) 36 [.str [9, 39]] H1 = .ok (.tup [.int 1, .int 9]) H2 := e2
  have hz : (zs.map V.int).length ≤ big := by rw [List.length_map]; exact Nat.le_trans hl (by decide)
  have cr : compR (fun x H2 => evalE (FF W (n + 12)) GV sg (.idx (.loc 0) (.lit (.int 1))) [some x] H2) (.lst (R1.map Rec.tup)) ((R1.map Rec.tup).length + 1) 0 H1 = .ok [.str [97], .str [45, 45, 62], .str [98], .str []] H1 := by kernel_rfl
  have ne1 : cmpV H1 .ne (.lst [.str [97], .str [45, 45, 62], .str [98], .str []]) (.lst [.str [97], .str [45, 45, 62], .str [98], .str []]) = some false := by kernel_rfl
  have ne2 := ne_pair H2 1 9
  have hr : ∀ y : Int, 0 ≤ y → (0 : Int) ≤ (if (if y < 2 then y else 2) > 1 then (if y < 2 then y else 2) else 1) ∧ (if (if y < 2 then y else 2) > 1 then (if y < 2 then y else 2) else 1) ≤ (big : Int) := fun y hy => by
    have : (2 : Int) ≤ (big : Int) := by decide
    split <;> split <;> omega
  obtain ⟨N, hN, c2⟩ : ∃ N : Int, (0 ≤ N ∧ N ≤ big) ∧ evalE (FF W (n + 12)) GV sg (.max2 (.lit (.int 1)) (.min2 (.lit (.int 2)) (.len (.loc 0)))) [some (.lst (zs.map .int)), none, none, none, none, none, none, none, none] H2 = .ok (.int N) H2 :=
    ⟨_, hr _ (Int.natCast_nonneg _), r_max r_liti (r_min r_liti (r_len loc0 rfl hz))⟩
  obtain ⟨m', H3, e3⟩ := law_loop (W := W) (n := n) hW hl (List.range N.toNat) H2 none none none none none none none none
  refine ⟨H3, ?_⟩
  have c1 : evalE (FF W (n + 12)) GV sg (.comp (.idx (.loc 0) (.lit (.int 1))) (.call 36 (.cons (.lit (.str [97, 32, 45, 45, 62, 32, 98, 10, 45, 45, 32, 99, 10, 45, 45, 45, 32, 100])) .nil))) [some (.lst (zs.map .int)), none, none, none, none, none, none, none, none] [] = .ok (.lst [.str [97], .str [45, 45, 62], .str [98], .str []]) H1 :=
    r_comp (r_call (r_cons r_lits r_nil) e1) rfl (show 4 ≤ big by decide) cr
  repeat' (first | with_reducible exact c1 | with_reducible exact ne1 | with_reducible exact e2 | with_reducible exact ne2 | with_reducible exact c2 | with_reducible exact hN | with_reducible exact e3 | k_updF)
end
end
-- S1
section
open PySem PySem.W PyProof.Rows PySem.Calls PySem.SeqAt
/-- the one setting -/
noncomputable def mkS (w : World) (base : Heap) (mg mb : Str → Option Value) : Sta :=
  { c := ⟨PySem.Challenge.rw_pq0605_01.row.prog, w, KF w.params, base, mg, mb⟩, WE := 52, G := GV, gnm := GN, sg := sg, fnm := FN, fadr := FA, soft := softOf, cnm := CN, wnm := "WordError" }
noncomputable def fdO (o : Option Obj) : Option FuncData := match o with
  | some ⟨_, _, .func fd, _⟩ => some fd
  | _ => none
theorem fdO_ok {o : Option Obj} {fd : FuncData} (h : fdO o = some fd) : ∃ x, o = some x ∧ x.data = .func fd := by
  unfold fdO at h
  split at h
  · cases h; exact ⟨_, rfl, rfl⟩
  · cases h
noncomputable def noFd : FuncData := { name := "", qualname := "", params := ⟨[], [], none, [], [], none, []⟩, body := .stmts [], scope := { kind := .function, names := [], isGenerator := false, isCoroutine := false }, globals := 0, closure := [], defaults := .none, kwdefaults := .none }
noncomputable def fdK (P : Params) (a : Addr) : FuncData := (fdO ((KF P).lookup a)).getD noFd
noncomputable def bodyK (P : Params) (a : Addr) : List Stmt := match (fdK P a).body with
  | .stmts b => b
  | _ => []
noncomputable def codO (o : Option Obj) (q : Str) : Bool := match o with
  | some ⟨_, _, .fields vs, _⟩ => (match (vs[1]? : Option Value) with
    | some (.str x _) => x == q
    | _ => false)
  | _ => false
theorem codO_ok {o : Option Obj} {q : Str} (h : codO o q = true) : ∃ x vs t, o = some x ∧ x.data = .fields vs ∧ vs[1]? = some (.str q t) := by
  unfold codO at h
  split at h
  · split at h
    · rename_i e; exact ⟨_, _, _, rfl, rfl, by rw [e, beq_iff_eq.mp h]⟩
    · cases h
  · cases h
noncomputable def refO (v : Value) : Option Addr := match v with
  | .ref c => some c
  | _ => none
theorem refO_ok {v : Value} {c : Addr} (h : refO v = some c) : v = .ref c := by
  cases v with
  | ref d => cases h; rfl
  | _ => cases h
noncomputable def codQ (K : Frag) (fd : FuncData) : Bool := match refO fd.code with
  | some c => codO (K.lookup c) fd.qualname
  | none => false
theorem codQ_ok {K : Frag} {fd : FuncData} (h : codQ K fd = true) : CodeOk K fd := by
  unfold codQ at h
  cases e : refO fd.code with
  | none => rw [e] at h; cases h
  | some c =>
    rw [e] at h
    obtain ⟨x, vs, t, a, b, d⟩ := codO_ok h
    exact ⟨c, x, vs, t, refO_ok e, a, b, d⟩
noncomputable def fdQ (K : Frag) (fn : Fn) (fd : FuncData) : Bool :=
  codQ K fd && (fd.globals == mainGlobals && (fd.builtins == builtinsNs && (fd.scope.names.all (fun x => x.2 != .cell) && ((fn.nm.take fn.np).all (fun x => fd.scope.names.lookup x == some .local) &&
  (fd.scope.isCoroutine == false && (fd.scope.isGenerator == false && (fd.scope.kind == .function && (decide (fn.nm.Nodup) && (Nat.ble fn.np fn.nm.length && Nat.ble fn.dfl.length fn.np)))))))))
theorem fnok_of {S : Sta} {f : Nat} {fn : Fn} {fd : FuncData} {body : List Stmt} {ds : List Value} (ha : S.fadr f = some fn.addr) (h1 : fdO (S.c.K.lookup fn.addr) = some fd) (h2 : fd.body = .stmts body) (h3 : fdQ S.c.K fn fd = true)
    (h4 : VRs S.c.hf (fun a o => S.c.base.get? a = some o) [] fn.dfl ds)
    (h5 : ∀ (s : Shared) (xs : List Value), S.c.K.In s.heap → xs.length ≤ fn.np → fn.np ≤ xs.length + ds.length → BindsTo s fd ⟨xs, []⟩ ((fn.nm.take fn.np).zip (xs ++ ds.drop (ds.length + xs.length - fn.np)))) : FnOk S f fn fd body ds :=
  have a := an6 h3; have b := an5 a.2.2.2.2.2; have c := an2 b.2.2.2.2
  ⟨ha, fdO_ok h1, codQ_ok a.1, h2, beq_iff_eq.mp a.2.1, beq_iff_eq.mp a.2.2.1, fun x hx => bne_iff_ne.mp (List.all_eq_true.mp a.2.2.2.1 x hx), fun x hx => beq_iff_eq.mp (List.all_eq_true.mp a.2.2.2.2.1 x hx), beq_iff_eq.mp b.1, beq_iff_eq.mp b.2.1, beq_iff_eq.mp b.2.2.1, of_decide_eq_true b.2.2.2.1, Nat.le_of_ble_eq_true c.1, Nat.le_of_ble_eq_true c.2, h4, h5⟩
theorem fdK_ok {P : Params} {a : Addr} (h : (fdO ((KF P).lookup a)).isSome = true) : fdO ((KF P).lookup a) = some (fdK P a) := by
  unfold fdK
  cases hq : fdO ((KF P).lookup a) with
  | none => rw [hq] at h; cases h
  | some fd => rfl
/-- what a function's binding asks -/
noncomputable def Bnd (K : Frag) (fd : FuncData) (ns : List Str) (np : Nat) (ds : List Value) : Prop := ∀ (s : Shared) (xs : List Value), K.In s.heap → xs.length ≤ np → np ≤ xs.length + ds.length → BindsTo s fd ⟨xs, []⟩ (ns.zip (xs ++ ds.drop (ds.length + xs.length - np)))
theorem le0 {n : Nat} (h : Nat.ble n 0 = true → False) (q : n ≤ 0) : False := h (Nat.ble_eq_true_of_le q)
theorem binds0 {K : Frag} {fd : FuncData} (h : bindArgs fd ⟨[], []⟩ = pure []) : Bnd K fd [] 0 [] := fun s xs _ h1 _ => match xs, h1 with
  | [], _ => .of_eq h
theorem binds1 {K : Frag} {fd : FuncData} {na : Str} (h : ∀ a : Value, bindArgs fd ⟨[a], []⟩ = pure [(na, a)]) : Bnd K fd [na] 1 [] := fun s xs _ h1 h2 => match xs, h1, h2 with
  | [a], _, _ => .of_eq (h a)
  | [], _, h2 => absurd h2 (Nat.not_succ_le_zero _)
  | _ :: _ :: _, h1, _ => absurd (Nat.le_of_succ_le_succ h1) (Nat.not_succ_le_zero _)
theorem binds2 {K : Frag} {fd : FuncData} {na nb : Str} (h : ∀ a b : Value, bindArgs fd ⟨[a, b], []⟩ = pure [(na, a), (nb, b)]) : Bnd K fd [na, nb] 2 [] := fun s xs _ h1 h2 => match xs, h1, h2 with
  | [a, b], _, _ => .of_eq (h a b)
  | [], _, h2 => absurd h2 (Nat.not_succ_le_zero _)
  | [_], _, h2 => absurd (Nat.le_of_succ_le_succ h2) (Nat.not_succ_le_zero _)
  | _ :: _ :: _ :: _, h1, _ => absurd (Nat.le_of_succ_le_succ (Nat.le_of_succ_le_succ h1)) (Nat.not_succ_le_zero _)
theorem gt_no {a b : Nat} (h : Nat.ble a b = false) (q : a ≤ b) : False := by rw [Nat.ble_eq_true_of_le q] at h; cases h
section
variable (w : World) (base : Heap) (mg mb : Str → Option Value)
/-- a function is as its object tells, and its tree is the compact one's -/
noncomputable def FE (w : World) (base : Heap) (mg mb : Str → Option Value) (f : Nat) (fn : Fn) : Prop := ∀ adr, FA f = some adr → fn.addr = adr ∧ ∃ fd body ds, FnOk (mkS w base mg mb) f fn fd body ds ∧ unSs (mkS w base mg mb) fn.body ⟨fd.scope, fn.nm, false, softOf f⟩ body = (body, true)
theorem fe_of {w : World} {base : Heap} {mg mb : Str → Option Value} {f : Nat} {fn : Fn} {ds : List Value} (h : FnOk (mkS w base mg mb) f fn (fdK w.params fn.addr) (bodyK w.params fn.addr) ds) (u : unSs (mkS w base mg mb) fn.body ⟨(fdK w.params fn.addr).scope, fn.nm, false, softOf f⟩ (bodyK w.params fn.addr) = (bodyK w.params fn.addr, true)) : FE w base mg mb f fn :=
  fun _ ha => ⟨Option.some.inj (h.adr.symm.trans ha), _, _, ds, h, u⟩
theorem fb0 : ∀ (s : Shared) (xs : List Value), (KF w.params).In s.heap → xs.length ≤ 7 → 7 ≤ xs.length + ([.none, .bool false] : List Value).length → BindsTo s (fdK w.params 73) ⟨xs, []⟩ ((["self", "kind", "text", "line", "column", "value", "is_first"] : List Str).zip (xs ++ ([.none, .bool false] : List Value).drop (([.none, .bool false] : List Value).length + xs.length - 7))) := fun s xs X h1 h2 => match xs, X, h1, h2 with
  | [], _, _, h2 => (gt_no rfl h2).elim
  | [a], _, _, h2 => (gt_no rfl h2).elim
  | [a, b], _, _, h2 => (gt_no rfl h2).elim
  | [a, b, c], _, _, h2 => (gt_no rfl h2).elim
  | [a, b, c, d], _, _, h2 => (gt_no rfl h2).elim
  | [a, b, c, d, e], X, _, _ => kp_binds (K := KF w.params) X fun S => by kernel_rfl
  | [a, b, c, d, e, f], X, _, _ => kp_binds (K := KF w.params) X fun S => by kernel_rfl
  | [a, b, c, d, e, f, g], X, _, _ => kp_binds (K := KF w.params) X fun S => by kernel_rfl
  | _ :: _ :: _ :: _ :: _ :: _ :: _ :: _ :: _, _, h1, _ => absurd (Nat.le_of_succ_le_succ (Nat.le_of_succ_le_succ (Nat.le_of_succ_le_succ (Nat.le_of_succ_le_succ (Nat.le_of_succ_le_succ (Nat.le_of_succ_le_succ (Nat.le_of_succ_le_succ h1))))))) (Nat.not_succ_le_zero _)
theorem fo0 : FE w base mg mb 0 p_WordInit := fe_of (ds := [.none, .bool false]) (fnok_of rfl (fdK_ok (by kernel_rfl)) (by kernel_rfl) (by kernel_rfl) (.cons .none (.cons (.bool false) .nil)) (fb0 w)) (by kernel_rfl)
theorem fo1 : FE w base mg mb 1 p_SignsInit := fe_of (ds := []) (fnok_of rfl (fdK_ok (by kernel_rfl)) (by kernel_rfl) (by kernel_rfl) .nil (binds2 fun a b => by kernel_rfl)) (by kernel_rfl)
theorem fb2 : ∀ (s : Shared) (xs : List Value), (KF w.params).In s.heap → xs.length ≤ 2 → 2 ≤ xs.length + ([.int 0 435] : List Value).length → BindsTo s (fdK w.params 116) ⟨xs, []⟩ ((["self", "ahead"] : List Str).zip (xs ++ ([.int 0 435] : List Value).drop (([.int 0 435] : List Value).length + xs.length - 2))) := fun s xs X h1 h2 => match xs, X, h1, h2 with
  | [], _, _, h2 => (gt_no rfl h2).elim
  | [a], X, _, _ => kp_binds (K := KF w.params) X fun S => by kernel_rfl
  | [a, b], X, _, _ => kp_binds (K := KF w.params) X fun S => by kernel_rfl
  | _ :: _ :: _ :: _, _, h1, _ => absurd (Nat.le_of_succ_le_succ (Nat.le_of_succ_le_succ h1)) (Nat.not_succ_le_zero _)
theorem fo2 : FE w base mg mb 2 p_Signs_sign := fe_of (ds := [.int 0 435]) (fnok_of rfl (fdK_ok (by kernel_rfl)) (by kernel_rfl) (by kernel_rfl) (.cons (.int 0 435) .nil) (fb2 w)) (by kernel_rfl)
theorem fo3 : FE w base mg mb 3 p_Signs_starts := fe_of (ds := []) (fnok_of rfl (fdK_ok (by kernel_rfl)) (by kernel_rfl) (by kernel_rfl) .nil (binds2 fun a b => by kernel_rfl)) (by kernel_rfl)
theorem fo4 : FE w base mg mb 4 p_Signs_step := fe_of (ds := []) (fnok_of rfl (fdK_ok (by kernel_rfl)) (by kernel_rfl) (by kernel_rfl) .nil (binds1 fun a => by kernel_rfl)) (by kernel_rfl)
theorem fo5 : FE w base mg mb 5 p_Signs_take := fe_of (ds := []) (fnok_of rfl (fdK_ok (by kernel_rfl)) (by kernel_rfl) (by kernel_rfl) .nil (binds2 fun a b => by kernel_rfl)) (by kernel_rfl)
theorem fo6 : FE w base mg mb 6 p_Signs_place := fe_of (ds := []) (fnok_of rfl (fdK_ok (by kernel_rfl)) (by kernel_rfl) (by kernel_rfl) .nil (binds1 fun a => by kernel_rfl)) (by kernel_rfl)
theorem fo7 : FE w base mg mb 7 p_is_among := fe_of (ds := []) (fnok_of rfl (fdK_ok (by kernel_rfl)) (by kernel_rfl) (by kernel_rfl) .nil (binds2 fun a b => by kernel_rfl)) (by kernel_rfl)
theorem fo8 : FE w base mg mb 8 p_name_letters := fe_of (ds := []) (fnok_of rfl (fdK_ok (by kernel_rfl)) (by kernel_rfl) (by kernel_rfl) .nil (binds0 (by kernel_rfl))) (by kernel_rfl)
theorem fo9 : FE w base mg mb 9 p_is_line_comment := fe_of (ds := []) (fnok_of rfl (fdK_ok (by kernel_rfl)) (by kernel_rfl) (by kernel_rfl) .nil (binds1 fun a => by kernel_rfl)) (by kernel_rfl)
theorem fo10 : FE w base mg mb 10 p_skip_nested := fe_of (ds := []) (fnok_of rfl (fdK_ok (by kernel_rfl)) (by kernel_rfl) (by kernel_rfl) .nil (binds1 fun a => by kernel_rfl)) (by kernel_rfl)
theorem fo11 : FE w base mg mb 11 p_skip_between := fe_of (ds := []) (fnok_of rfl (fdK_ok (by kernel_rfl)) (by kernel_rfl) (by kernel_rfl) .nil (binds1 fun a => by kernel_rfl)) (by kernel_rfl)
theorem fo12 : FE w base mg mb 12 p_number_of := fe_of (ds := []) (fnok_of rfl (fdK_ok (by kernel_rfl)) (by kernel_rfl) (by kernel_rfl) .nil (binds2 fun a b => by kernel_rfl)) (by kernel_rfl)
theorem fo13 : FE w base mg mb 13 p_based_number := fe_of (ds := []) (fnok_of rfl (fdK_ok (by kernel_rfl)) (by kernel_rfl) (by kernel_rfl) .nil (binds1 fun a => by kernel_rfl)) (by kernel_rfl)
theorem fo14 : FE w base mg mb 14 p_read_number := fe_of (ds := []) (fnok_of rfl (fdK_ok (by kernel_rfl)) (by kernel_rfl) (by kernel_rfl) .nil (binds1 fun a => by kernel_rfl)) (by kernel_rfl)
theorem fo15 : FE w base mg mb 15 p_checked_sign := fe_of (ds := []) (fnok_of rfl (fdK_ok (by kernel_rfl)) (by kernel_rfl) (by kernel_rfl) .nil (binds2 fun a b => by kernel_rfl)) (by kernel_rfl)
theorem fo16 : FE w base mg mb 16 p_named_escape := fe_of (ds := []) (fnok_of rfl (fdK_ok (by kernel_rfl)) (by kernel_rfl) (by kernel_rfl) .nil (binds1 fun a => by kernel_rfl)) (by kernel_rfl)
theorem fo17 : FE w base mg mb 17 p_read_escape := fe_of (ds := []) (fnok_of rfl (fdK_ok (by kernel_rfl)) (by kernel_rfl) (by kernel_rfl) .nil (binds1 fun a => by kernel_rfl)) (by kernel_rfl)
theorem fo18 : FE w base mg mb 18 p_read_char := fe_of (ds := []) (fnok_of rfl (fdK_ok (by kernel_rfl)) (by kernel_rfl) (by kernel_rfl) .nil (binds1 fun a => by kernel_rfl)) (by kernel_rfl)
theorem fo19 : FE w base mg mb 19 p_skip_gap := fe_of (ds := []) (fnok_of rfl (fdK_ok (by kernel_rfl)) (by kernel_rfl) (by kernel_rfl) .nil (binds2 fun a b => by kernel_rfl)) (by kernel_rfl)
theorem fo20 : FE w base mg mb 20 p_read_text := fe_of (ds := []) (fnok_of rfl (fdK_ok (by kernel_rfl)) (by kernel_rfl) (by kernel_rfl) .nil (binds1 fun a => by kernel_rfl)) (by kernel_rfl)
theorem fo21 : FE w base mg mb 21 p_symbol_kind := fe_of (ds := []) (fnok_of rfl (fdK_ok (by kernel_rfl)) (by kernel_rfl) (by kernel_rfl) .nil (binds1 fun a => by kernel_rfl)) (by kernel_rfl)
theorem fo22 : FE w base mg mb 22 p_behind_point := fe_of (ds := []) (fnok_of rfl (fdK_ok (by kernel_rfl)) (by kernel_rfl) (by kernel_rfl) .nil (binds1 fun a => by kernel_rfl)) (by kernel_rfl)
theorem fo23 : FE w base mg mb 23 p_read_great_name := fe_of (ds := []) (fnok_of rfl (fdK_ok (by kernel_rfl)) (by kernel_rfl) (by kernel_rfl) .nil (binds1 fun a => by kernel_rfl)) (by kernel_rfl)
theorem fo24 : FE w base mg mb 24 p_symbols_ahead := fe_of (ds := []) (fnok_of rfl (fdK_ok (by kernel_rfl)) (by kernel_rfl) (by kernel_rfl) .nil (binds1 fun a => by kernel_rfl)) (by kernel_rfl)
theorem fo25 : FE w base mg mb 25 p_read_word := fe_of (ds := []) (fnok_of rfl (fdK_ok (by kernel_rfl)) (by kernel_rfl) (by kernel_rfl) .nil (binds1 fun a => by kernel_rfl)) (by kernel_rfl)
theorem fo26 : FE w base mg mb 26 p_words_of := fe_of (ds := []) (fnok_of rfl (fdK_ok (by kernel_rfl)) (by kernel_rfl) (by kernel_rfl) .nil (binds1 fun a => by kernel_rfl)) (by kernel_rfl)
theorem fo27 : FE w base mg mb 27 p_law_trough := fe_of (ds := []) (fnok_of rfl (fdK_ok (by kernel_rfl)) (by kernel_rfl) (by kernel_rfl) .nil (binds2 fun a b => by kernel_rfl)) (by kernel_rfl)
theorem fo28 : FE w base mg mb 28 p_law_gulp := fe_of (ds := []) (fnok_of rfl (fdK_ok (by kernel_rfl)) (by kernel_rfl) (by kernel_rfl) .nil (binds2 fun a b => by kernel_rfl)) (by kernel_rfl)
theorem fo29 : FE w base mg mb 29 p_law_menu := fe_of (ds := []) (fnok_of rfl (fdK_ok (by kernel_rfl)) (by kernel_rfl) (by kernel_rfl) .nil (binds0 (by kernel_rfl))) (by kernel_rfl)
theorem fo30 : FE w base mg mb 30 p_law_source := fe_of (ds := []) (fnok_of rfl (fdK_ok (by kernel_rfl)) (by kernel_rfl) (by kernel_rfl) .nil (binds1 fun a => by kernel_rfl)) (by kernel_rfl)
theorem fo31 : FE w base mg mb 31 p_law_go := fe_of (ds := []) (fnok_of rfl (fdK_ok (by kernel_rfl)) (by kernel_rfl) (by kernel_rfl) .nil (binds2 fun a b => by kernel_rfl)) (by kernel_rfl)
theorem fo32 : FE w base mg mb 32 p_law_add := fe_of (ds := []) (fnok_of rfl (fdK_ok (by kernel_rfl)) (by kernel_rfl) (by kernel_rfl) .nil (binds2 fun a b => by kernel_rfl)) (by kernel_rfl)
theorem fo33 : FE w base mg mb 33 p_law_gap := fe_of (ds := []) (fnok_of rfl (fdK_ok (by kernel_rfl)) (by kernel_rfl) (by kernel_rfl) .nil (binds1 fun a => by kernel_rfl)) (by kernel_rfl)
theorem fo34 : FE w base mg mb 34 p_law_page := fe_of (ds := []) (fnok_of rfl (fdK_ok (by kernel_rfl)) (by kernel_rfl) (by kernel_rfl) .nil (binds1 fun a => by kernel_rfl)) (by kernel_rfl)
theorem fo35 : FE w base mg mb 35 p_law_spoilt := fe_of (ds := []) (fnok_of rfl (fdK_ok (by kernel_rfl)) (by kernel_rfl) (by kernel_rfl) .nil (binds1 fun a => by kernel_rfl)) (by kernel_rfl)
theorem fo36 : FE w base mg mb 36 p_law_told := fe_of (ds := []) (fnok_of rfl (fdK_ok (by kernel_rfl)) (by kernel_rfl) (by kernel_rfl) .nil (binds1 fun a => by kernel_rfl)) (by kernel_rfl)
theorem ft37 : unSs (mkS w base mg mb) p_lawB ⟨(fdK w.params 364).scope, p_law.nm, true, false⟩ (bodyK w.params 364) = (bodyK w.params 364, true) := by kernel_rfl
end
section
variable {α : Type} {P : Nat → α → Prop}
theorem ix_nil {k : Nat} : ∀ (i : Nat) (x : α), ([] : List α)[i]? = some x → P (k + i) x := fun _ _ h => nomatch h
theorem ix_cons {k : Nat} {a : α} {l : List α} (h : P k a) (t : ∀ (i : Nat) (x : α), l[i]? = some x → P (k + 1 + i) x) : ∀ (i : Nat) (x : α), (a :: l)[i]? = some x → P (k + i) x
  | 0, x, e => by cases e; exact h
  | i + 1, x, e => by rw [Nat.add_comm i 1, ← Nat.add_assoc]; exact t i x e
theorem ix_all {l : List α} (h : ∀ (i : Nat) (x : α), l[i]? = some x → P (0 + i) x) (i : Nat) (x : α) (e : l[i]? = some x) : P i x := by have := h i x e; rwa [Nat.zero_add] at this
end
theorem fns_ok {w : World} {base : Heap} {mg mb : Str → Option Value} : FnsOK (mkS w base mg mb) FT := fun f adr hf fn hF => ix_all (P := FE w base mg mb) (l := ftL) (
ix_cons (fo0 w base mg mb) <| ix_cons (fo1 w base mg mb) <| ix_cons (fo2 w base mg mb) <| ix_cons (fo3 w base mg mb) <| ix_cons (fo4 w base mg mb) <| ix_cons (fo5 w base mg mb) <| ix_cons (fo6 w base mg mb) <| ix_cons (fo7 w base mg mb) <| ix_cons (fo8 w base mg mb) <| ix_cons (fo9 w base mg mb) <| ix_cons (fo10 w base mg mb) <| ix_cons (fo11 w base mg mb) <| ix_cons (fo12 w base mg mb) <| ix_cons (fo13 w base mg mb) <| ix_cons (fo14 w base mg mb) <| ix_cons (fo15 w base mg mb) <| ix_cons (fo16 w base mg mb) <| ix_cons (fo17 w base mg mb) <| ix_cons (fo18 w base mg mb) <| ix_cons (fo19 w base mg mb) <| ix_cons (fo20 w base mg mb) <| ix_cons (fo21 w base mg mb) <| ix_cons (fo22 w base mg mb) <| ix_cons (fo23 w base mg mb) <| ix_cons (fo24 w base mg mb) <| ix_cons (fo25 w base mg mb) <| ix_cons (fo26 w base mg mb) <| ix_cons (fo27 w base mg mb) <| ix_cons (fo28 w base mg mb) <| ix_cons (fo29 w base mg mb) <| ix_cons (fo30 w base mg mb) <| ix_cons (fo31 w base mg mb) <| ix_cons (fo32 w base mg mb) <| ix_cons (fo33 w base mg mb) <| ix_cons (fo34 w base mg mb) <| ix_cons (fo35 w base mg mb) <| ix_cons (fo36 w base mg mb) <| ix_nil) f fn hF adr hf
end
-- S2
section
open PySem PySem.W PyProof.Rows PySem.Calls PySem.SeqAt
theorem join_lt {α : Type} {l : List (Option α)} {k : Nat} {x : α} (h : l[k]?.join = some x) : k < l.length := by
  cases e : l[k]? with
  | none => rw [e] at h; cases h
  | some o => exact (List.getElem?_eq_some_iff.mp e).1
noncomputable def fnC (K : Frag) (f : Str) (o : Option Addr) : Bool := match o with
  | none => false
  | some adr => decide (nsIn K mainGlobals f = some (some (.ref adr))) && keepIn K (.ref adr)
noncomputable def fnD (K : Frag) (k : Nat) (o : Option Str) : Bool := match o with
  | none => true
  | some f => fnC K f (FA k)
theorem fn_chk (P : Params) : ((List.range 38).all fun k => fnD (KF P) k (FN k)) = true := by kernel_rfl
noncomputable def ownC (K : Frag) (C : Addr) (f : List Nat) : Bool := plainGet K C (St f) && (hasDictIn K C && (decide (findIn K (.ref C) (St f) = some none) && (noGet K none && (decide (findIn K (.ref C) "__setattr__" = some (some (.builtin "object.__setattr__"))) && (plainOver K C && decide (takerIn K C (St f) = some none))))))
theorem own_chk (P : Params) : (ownWord.all (ownC (KF P) 90) && ownSigns.all (ownC (KF P) 147)) = true := by kernel_rfl
noncomputable def leafV (v : V) : Bool := match v with
  | .none => true
  | .int _ => true
  | .str _ => true
  | _ => false
noncomputable def vOf (t : Tok) (v : V) : Value := match v with
  | .int i => .int i t
  | .str s => .str (St s) t
  | _ => .none
theorem vOf_ok {hf : Str → Int} {P : Addr → Obj → Prop} {ads : List Addr} {v : V} (t : Tok) (h : leafV v = true) : VR hf P ads v (vOf t v) := by
  cases v with
  | none => exact .none
  | int i => exact .int i t
  | str s => exact .str s t
  | _ => cases h
noncomputable def stW : Tok → List V → List Value
  | _, [] => []
  | t, v :: r => vOf t v :: stW (t + 1) r
theorem stW_ok {hf : Str → Int} {P : Addr → Obj → Prop} {ads : List Addr} : ∀ (t : Tok) (l : List V), l.all leafV = true → VRs hf P ads l (stW t l)
  | _, [], _ => .nil
  | t, v :: r, h => have a := an2 h; .cons (vOf_ok t a.1) (stW_ok (t + 1) r a.2)
noncomputable def dW (P : Params) : Tok → List (List Nat × V) → List DictEntry
  | _, [] => []
  | t, (k, v) :: r => ⟨PyData.keyHash P (St k), .str (St k) t, vOf (t + 1) v⟩ :: dW P (t + 2) r
theorem dW_ok {Pm : Params} {P : Addr → Obj → Prop} {ads : List Addr} : ∀ (t : Tok) (l : List (List Nat × V)), l.all (fun p => leafV p.2) = true → VKs (fun x => PyData.keyHash Pm x) P ads l (dW Pm t l)
  | _, [], _ => .nil
  | t, (k, v) :: r, h => have a := an2 h; .cons (vOf_ok (t + 1) a.1) (dW_ok (t + 2) r a.2)
noncomputable def tupL (v : V) : List V := match v with
  | .tup l => l
  | _ => []
noncomputable def dctL (v : V) : List (List Nat × V) := match v with
  | .dct l => l
  | _ => []
section
variable {w : World} {base : Heap} {mg mb : Str → Option Value}
theorem tab_fn (cok : (mkS w base mg mb).c.Ok) (k : Nat) (f : Str) (h : FN k = some f) : ∃ adr, mg f = some (.ref adr) ∧ FA k = some adr ∧ keepIn (KF w.params) (.ref adr) = true := by
  have a := List.all_eq_true.mp (fn_chk w.params) k (List.mem_range.mpr (join_lt h))
  rw [h] at a
  replace a : fnC (KF w.params) f (FA k) = true := a
  cases e : FA k with
  | none => rw [e] at a; cases a
  | some adr =>
    rw [e] at a
    have b := an2 a
    exact ⟨adr, mg_of cok.kin cok.g (of_decide_eq_true b.1), rfl, b.2⟩
theorem tab_cls (cok : (mkS w base mg mb).c.Ok) : ∀ k f, CN k = some f → softOf k = false ∧ ∃ C adr, mg f = some (.ref C) ∧ clsOf k = some C ∧ FA k = some adr ∧ keepIn (KF w.params) (.ref C) = true ∧ makesIn (KF w.params) C = true ∧ findIn (KF w.params) (.ref C) "__init__" = some (some (.ref adr)) ∧ isFn (KF w.params) (.ref adr) = true
  | 0, f, h => by cases h; exact ⟨rfl, 90, 73, mg_of cok.kin cok.g (by kernel_rfl), rfl, rfl, by kernel_rfl, by kernel_rfl, by kernel_rfl, by kernel_rfl⟩
  | 1, f, h => by cases h; exact ⟨rfl, 147, 108, mg_of cok.kin cok.g (by kernel_rfl), rfl, rfl, by kernel_rfl, by kernel_rfl, by kernel_rfl, by kernel_rfl⟩
  | _ + 2, f, h => nomatch h
theorem meth_of {k : Nat} {n : List Nat} {adr : Addr} (h1 : clsOf k = some 147) (h2 : methOf k = some n) (h3 : FA k = some adr) (h4 : keepIn (KF w.params) (.ref adr) = true) (h5 : plainGet (KF w.params) 147 (St n) = true) (h6 : findIn (KF w.params) (.ref 147) (St n) = some (some (.ref adr))) (h7 : isFn (KF w.params) (.ref adr) = true) (h8 : softOf k = false) : ∀ n', methOf k = some n' → MethNm (mkS w base mg mb) (St n') k := fun n' e => by
  cases h2.symm.trans e
  exact ⟨⟨147, n, adr, h1, h2, rfl, h3, h4, h5, h6, h7⟩, h8⟩
theorem tab_meth : ∀ k n, methOf k = some n → MethNm (mkS w base mg mb) (St n) k
  | 0, n, h => nomatch h
  | 1, n, h => nomatch h
  | 2, n, h => meth_of rfl rfl rfl (by kernel_rfl) (by kernel_rfl) (by kernel_rfl) (by kernel_rfl) rfl n h
  | 3, n, h => meth_of rfl rfl rfl (by kernel_rfl) (by kernel_rfl) (by kernel_rfl) (by kernel_rfl) rfl n h
  | 4, n, h => meth_of rfl rfl rfl (by kernel_rfl) (by kernel_rfl) (by kernel_rfl) (by kernel_rfl) rfl n h
  | 5, n, h => meth_of rfl rfl rfl (by kernel_rfl) (by kernel_rfl) (by kernel_rfl) (by kernel_rfl) rfl n h
  | 6, n, h => meth_of rfl rfl rfl (by kernel_rfl) (by kernel_rfl) (by kernel_rfl) (by kernel_rfl) rfl n h
  | _ + 7, n, h => nomatch h
theorem own_of {C : Addr} {f : List Nat} (h : ownC (KF w.params) C f = true) : plainGet (KF w.params) C (St f) = true ∧ hasDictIn (KF w.params) C = true ∧ ∃ attr, findIn (KF w.params) (.ref C) (St f) = some attr ∧ noGet (KF w.params) attr = true ∧
  findIn (KF w.params) (.ref C) "__setattr__" = some (some (.builtin "object.__setattr__")) ∧ plainOver (KF w.params) C = true ∧ takerIn (KF w.params) C (St f) = some none :=
  have a := an6 h; have b := an2 a.2.2.2.2.2
  ⟨a.1, a.2.1, none, of_decide_eq_true a.2.2.1, a.2.2.2.1, of_decide_eq_true a.2.2.2.2.1, b.1, of_decide_eq_true b.2⟩
theorem tab_own : Own (mkS w base mg mb) := by
  intro C f h
  replace h : (bif C == 90 then ownWord.contains f else bif C == 147 then ownSigns.contains f else false) = true := h
  have ch := an2 (own_chk w.params)
  cases h90 : (C == 90) with
  | true =>
    rw [h90] at h
    cases beq_iff_eq.mp h90
    exact own_of (List.all_eq_true.mp ch.1 f (List.contains_iff_mem.mp h))
  | false =>
    rw [h90, cond_false] at h
    cases h147 : (C == 147) with
    | true =>
      rw [h147] at h
      cases beq_iff_eq.mp h147
      exact own_of (List.all_eq_true.mp ch.2 f (List.contains_iff_mem.mp h))
    | false => rw [h147] at h; cases h
theorem al_nil {α : Type} {P : α → Prop} : ∀ x ∈ ([] : List α), P x := fun _ h => nomatch h
theorem al_cons {α : Type} {P : α → Prop} {a : α} {l : List α} (h : P a) (t : ∀ x ∈ l, P x) : ∀ x ∈ a :: l, P x := fun x hx => (List.mem_cons.mp hx).elim (fun e => e ▸ h) (t x)
theorem bl_of {x : Str} {v : Value} (cok : (mkS w base mg mb).c.Ok) (h1 : nsIn (KF w.params) mainGlobals x = some none) (h2 : (x == "__name__") = false) (h3 : bootBuiltins x = some v) : mg x = none ∧ mb x = some v := ⟨ns_none_of cok.kin cok.g h1, (cok.bb x (beq_eq_false_iff_ne.mp h2)).trans h3⟩
theorem tab_bl (cok : (mkS w base mg mb).c.Ok) : ∀ id ∈ (["len", "chr", "ord", "max", "min"] : List String), mg (Str.ofString id) = none ∧ mb (Str.ofString id) = some (.builtin id) :=
  al_cons (bl_of cok (by kernel_rfl) (by kernel_rfl) (by kernel_rfl)) (al_cons (bl_of cok (by kernel_rfl) (by kernel_rfl) (by kernel_rfl)) (al_cons (bl_of cok (by kernel_rfl) (by kernel_rfl) (by kernel_rfl)) (al_cons (bl_of cok (by kernel_rfl) (by kernel_rfl) (by kernel_rfl)) (al_cons (bl_of cok (by kernel_rfl) (by kernel_rfl) (by kernel_rfl)) al_nil))))
noncomputable def GL (w : World) (base : Heap) (mg : Str → Option Value) (k : Nat) (x : Str) : Prop := ∀ v, GV k = some v → ∃ y, mg x = some y ∧ VR (fun x => PyData.keyHash w.params x) (fun a o => base.get? a = some o) [] v y
theorem gl_leaf {k : Nat} {x : Str} {v : V} {t : Tok} (cok : (mkS w base mg mb).c.Ok) (h1 : GV k = some v) (h2 : leafV v = true) (h3 : nsIn (KF w.params) mainGlobals x = some (some (vOf t v))) : GL w base mg k x := fun v' e => by
  cases h1.symm.trans e
  exact ⟨vOf t v, mg_of cok.kin cok.g h3, vOf_ok t h2⟩
theorem gl_tup {k : Nat} {x : Str} {l : List V} {t : Tok} {a : Addr} (cok : (mkS w base mg mb).c.Ok) (h1 : GV k = some (.tup l)) (h2 : l.all leafV = true) (h3 : nsIn (KF w.params) mainGlobals x = some (some (.ref a))) (h4 : (KF w.params).lookup a = some { cls := .type "tuple", data := .seq (stW t l).toArray 0 }) : GL w base mg k x := fun v' e => by
  cases h1.symm.trans e
  exact ⟨.ref a, mg_of cok.kin cok.g h3, .tup (cok.kin _ _ h4) (stW_ok t l h2)⟩
theorem gl_dct {k : Nat} {x : Str} {l : List (List Nat × V)} {t : Tok} {a : Addr} {n : Nat} (cok : (mkS w base mg mb).c.Ok) (h1 : GV k = some (.dct l)) (h2 : l.all (fun p => leafV p.2) = true) (h3 : nsIn (KF w.params) mainGlobals x = some (some (.ref a))) (h4 : (KF w.params).lookup a = some (dictOf (dW w.params t l) n)) (h5 : (a == sysModules) = false) : GL w base mg k x := fun v' e => by
  cases h1.symm.trans e
  exact ⟨.ref a, mg_of cok.kin cok.g h3, .dct (cok.kin _ _ h4) h5 (dW_ok t l h2)⟩
theorem tab_glo (cok : (mkS w base mg mb).c.Ok) : ∀ k x v, GN k = some x → GV k = some v → ∃ y, mg x = some y ∧ VR (mkS w base mg mb).c.hf (fun a o => base.get? a = some o) [] v y := fun k x v hx => ix_all (P := GL w base mg) (l := gnL) (
  ix_cons (gl_tup (l := tupL g_KEYS) (t := 245) (a := 55) cok rfl rfl (by kernel_rfl) (by kernel_rfl)) <|
  ix_cons (gl_tup (l := tupL g_OPS) (t := 267) (a := 56) cok rfl rfl (by kernel_rfl) (by kernel_rfl)) <|
  ix_cons (gl_leaf (v := g_SPECIALS) (t := 279) cok rfl rfl (by kernel_rfl)) <|
  ix_cons (gl_leaf (v := g_SYMBOLS) (t := 281) cok rfl rfl (by kernel_rfl)) <|
  ix_cons (gl_leaf (v := g_SMALL) (t := 283) cok rfl rfl (by kernel_rfl)) <|
  ix_cons (gl_leaf (v := g_GREAT) (t := 285) cok rfl rfl (by kernel_rfl)) <|
  ix_cons (gl_leaf (v := g_DIGITS) (t := 287) cok rfl rfl (by kernel_rfl)) <|
  ix_cons (gl_leaf (v := g_TAB) (t := 289) cok rfl rfl (by kernel_rfl)) <|
  ix_cons (gl_leaf (v := g_MOST_SIGN) (t := 291) cok rfl rfl (by kernel_rfl)) <|
  ix_cons (gl_dct (l := dctL g_PLAIN_ESCAPES) (t := 293) (a := 57) (n := 10) cok rfl rfl (by kernel_rfl) (by kernel_rfl) rfl) <|
  ix_cons (gl_tup (l := tupL g_NAMED_ESCAPES) (t := 324) (a := 58) cok rfl rfl (by kernel_rfl) (by kernel_rfl)) <|
  ix_cons (gl_leaf (v := g_DELETE) (t := 358) cok rfl rfl (by kernel_rfl)) <| ix_nil) k x hx v
noncomputable def iniPos (k : Nat) : Pos := ([⟨8, 8, 8, 17⟩, ⟨8, 8, 8, 26⟩, ⟨8, 27, 8, 31⟩, ⟨8, 33, 8, 40⟩, ⟨8, 8, 8, 41⟩, ⟨8, 8, 8, 41⟩, ⟨9, 8, 9, 12⟩, ⟨9, 8, 9, 20⟩, ⟨9, 23, 9, 30⟩, ⟨9, 8, 9, 30⟩, ⟨10, 8, 10, 12⟩, ⟨10, 8, 10, 18⟩, ⟨10, 21, 10, 26⟩, ⟨10, 8, 10, 26⟩] : List Pos).getD k ⟨0, 0, 0, 0⟩
theorem fbI : ∀ (s : Shared) (xs : List Value), (KF w.params).In s.heap → xs.length ≤ 3 → 3 ≤ xs.length + ([.none] : List Value).length → BindsTo s (fdK w.params 36) ⟨xs, []⟩ ((["self", "message", "place"] : List Str).zip (xs ++ ([.none] : List Value).drop (([.none] : List Value).length + xs.length - 3))) := fun s xs X h1 h2 => match xs, X, h1, h2 with
  | [], _, _, h2 => (gt_no rfl h2).elim
  | [a], _, _, h2 => (gt_no rfl h2).elim
  | [a, b], X, _, _ => kp_binds (K := KF w.params) X fun S => by kernel_rfl
  | [a, b, c], X, _, _ => kp_binds (K := KF w.params) X fun S => by kernel_rfl
  | _ :: _ :: _ :: _ :: _, _, h1, _ => absurd (Nat.le_of_succ_le_succ (Nat.le_of_succ_le_succ (Nat.le_of_succ_le_succ h1))) (Nat.not_succ_le_zero _)
theorem tab_we (cok : (mkS w base mg mb).c.Ok) : WErr (mkS w base mg mb) 100 36 (fdK w.params 36) where
  obj := ⟨39, 51, "WordError", "WordError", [.ref 39], [], [], false, .none, .none, some (.ref 43), .none, some (.str "WordError" 227), some (.str "WordError" 235), some (.bool true), by kernel_rfl⟩
  init := by kernel_rfl
  isf := by kernel_rfl
  set := by kernel_rfl
  ga := by kernel_rfl
  gn := by kernel_rfl
  noM := by kernel_rfl
  noP := by kernel_rfl
  fn := ⟨iniPos, [.none], fnok_of rfl (fdK_ok (by kernel_rfl)) (by kernel_rfl) (by kernel_rfl) (.cons .none .nil) fbI, by decide⟩
  nmE := by kernel_rfl
  mgE := ns_none_of cok.kin cok.g (by kernel_rfl)
  mbE := (cok.bb _ (by decide)).trans (by kernel_rfl)
  meth := by kernel_rfl
theorem tab (cok : (mkS w base mg mb).c.Ok) : Tab (mkS w base mg mb) 100 36 (fdK w.params 36) where
  cok := cok
  own := tab_own
  glo := tab_glo cok
  fn := tab_fn cok
  cls := tab_cls cok
  meth := tab_meth
  bl := tab_bl cok
  rng := bl_of cok (by kernel_rfl) (by kernel_rfl) (by kernel_rfl)
  we := tab_we cok
  wn := ⟨mg_of cok.kin cok.g (by kernel_rfl), by kernel_rfl⟩
end
end
-- S3
section
open PySem PySem.W PyProof.Rows
theorem ints_vrs {hf : Str → Int} {P : Addr → Obj → Prop} {ads : List Addr} : ∀ {vals : List Value} {zs : List Int}, IntsAre vals zs → VRs hf P ads (zs.map V.int) vals
  | _, _, .nil => .nil
  | _, _, .cons n t h => .cons (.int n t) (ints_vrs h)
theorem join {w : World} {base : Heap} {mg mb : Str → Option Value} (cok : (mkS w base mg mb).c.Ok) {A : Around} {env : Env} {L : Addr} {mc : Str → Option Value} {s : Shared} {body : List Stmt} {ax : Addr} {vals : List Value} {zs : List Int}
    {Qf : Flow → Shared → Prop} {Ep : Value → Shared → Prop} (hb : bodyK w.params 364 = body) (he : EnvOk env L (fdK w.params 364).scope) (hfr : env.frame = some L) (hfa : A.frames = some [env]) (hh : A.handled = none) (hd : A.depth ≤ 302) (hu : A.units ≤ 100)
    (F : Fr base L s.heap mc) (N : News base L s.heap []) (hm : mc "script" = some (.ref ax)) {q : Nat} (hx : base.get? ax = some { cls := .type "list", data := .seq vals.toArray q }) (hI : IntsAre vals zs) (hl : zs.length ≤ 63)
    (K : ∀ h' tk' mc', Fr base L h' mc' → Qf (.ret (.bool true)) { s with heap := h', toks := tk' }) : wpAny (model PySem.Challenge.rw_pq0605_01.row.prog w) A (execs body env) Qf Ep s := by
  subst hb
  obtain ⟨H', hlaw⟩ := law_true (W := 1001) (n := 0) rfl hl
  have T := tab cok
  have X : ExecsOK (mkS w base mg mb) 12 ⟨(fdK w.params 364).scope, p_law.nm, true, false⟩ (bodyK w.params 364) (execSs (callF FT (mkS w base mg mb).G (mkS w base mg mb).sg 1001 12) (mkS w base mg mb).G (mkS w base mg mb).sg 1001 p_lawB) := un_body (W := 1001) T (calls_ok (W := 1001) T fns_ok 12) (by decide) (show p_law.nm.Nodup by decide) (ft37 w base mg mb)
  refine @X A [env] env L mc [] [] [] [some (.lst (zs.map .int)), none, none, none, none, none, none, none, none] [] s Qf Ep ⟨⟨he, ⟨F, N, List.nodup_nil⟩, ⟨List.nodup_nil, rfl, fun i o hi => by simp at hi⟩, ?_, hfa, ?_, hh, ?_, ?_, fun _ p hp => nomatch hp⟩, hfr, ⟨[], rfl⟩⟩ ?_
  · intro i v hv
    match i, hv with
    | 0, hv =>
      cases hv
      exact ⟨"script", .ref ax, rfl, hm, .lst (.inr hx) (ints_vrs hI)⟩
    | 1, hv => cases hv
    | 2, hv => cases hv
    | 3, hv => cases hv
    | 4, hv => cases hv
    | 5, hv => cases hv
    | 6, hv => cases hv
    | 7, hv => cases hv
    | 8, hv => cases hv
    | i + 9, hv => simp at hv
  · intro e hm
    cases List.mem_singleton.mp hm
    refine ⟨?_, L, hfr, .inl rfl⟩
    rw [he.sc, he.kind]; exact fun h => by cases h
  · show A.depth + 3 * 12 + 10 < 1000
    omega
  · show A.units + 40 * 12 + 100 < 9900
    omega
  · have e : execSs (callF FT (mkS w base mg mb).G (mkS w base mg mb).sg 1001 12) (mkS w base mg mb).G (mkS w base mg mb).sg 1001 p_lawB [some (.lst (zs.map .int)), none, none, none, none, none, none, none, none] [] = .ret (.bool true) H' := hlaw
    rw [e]
    intro x h' tk' ads' led' mc' frs' hf sr ar ex vr
    cases vr
    exact K h' tk' mc' sr.fr
end
-- S4
section
open PySem PySem.W PyProof.Rows
theorem hlO : LeftO thePw (qv thePw) ["LazyError", "PLAIN_ESCAPES"] (fun s => xlAt (qv thePw) [] s && recOk [] s) (Hook.obs (kHook KF asK asK_eq)) (Hook.val (kHook KF asK asK_eq)) 5062 := byRow2 "special-get-raises" hlF hlT
theorem hbare : PySem.Challenge.rw_pq0605_01.row.prog.bare := ⟨rfl, rfl, rfl, rfl, rfl, by decide +kernel⟩
theorem hok : (chainsOk (qv thePw) && opensWell PySem.Challenge.rw_pq0605_01.row.prog && (frees PySem.Challenge.rw_pq0605_01.row.toRowW && PySem.Challenge.rw_pq0605_01.row.within.isEmpty)) = true := by decide +kernel
local macro_rules | `(tactic| k_qdec) => `(tactic| decide +kernel)
theorem law_holds : PySem.Challenge.rw_pq0605_01.Holds := by
  w_on
  refine holds_law hsaid fun said => ?_
  refine holds_open (q := qv thePw) (loose := ["LazyError", "PLAIN_ESCAPES"]) (Xt := fun s => xlAt (qv thePw) [] s && recOk [] s) (XP := XL (qv thePw) []) (Yf := Hook.obs (kHook KF asK asK_eq)) (Ya := Hook.val (kHook KF asK asK_eq)) (YP := Hook.says (kHook KF asK asK_eq)) (N := 5062) hlO (Hook.of (kHook KF asK asK_eq)) (Hook.keeps (kHook KF asK asK_eq)) (fun s e => xl_of s (Bool.and_eq_true_iff.mp e).1) XL.keeps (by rfl) (by rfl) (by rfl) (fun s e => recFacts_of (Bool.and_eq_true_iff.mp e).2) (by rfl) (by first | assumption | decide +kernel) hok hbare ?hw ?hc
  case hw => w_witness2
  case hc =>
    k_go0
    rename_i w s0 s1 mg mb G Y fa o pm doc kV ho hg KX X V GL T B TE TW m9 m8 M c7 c6 hcd zs hs hlay hL1 hr1 hl2 a4 a3 ax vals a0 hL ra w1 r0 hI hr hc1 hc0 K0 hD h1 F N0
    have cok : (mkS w s1.heap mg mb).c.Ok := ⟨KX, T.g, T.b, T.builtins, T.nolimit⟩
    have hx : ∃ vs2 : List Value, s1.heap.get? ax = some { cls := .type "list", data := .seq vs2.toArray } ∧ IntsAre vs2 zs := by
      cases w1 with
      | list g _ =>
        obtain ⟨o', ho', _, q, hd'⟩ := hL
        rw [g] at ho'
        cases ho'
        cases hd'
        exact ⟨vals, g, hI⟩
    obtain ⟨vs2, hx, hI2⟩ := hx
    refine join cok (vals := vs2) (zs := zs) (ax := ax) (by kernel_rfl) ⟨by kernel_rfl, by kernel_rfl, rfl, rfl, rfl⟩ rfl rfl rfl (Nat.le_of_ble_eq_true rfl) (Nat.le_of_ble_eq_true rfl) F N0 rfl hx hI2 (by omega) ?_
    intro h' tk' mc' F'
    refine goodW_bool F' hg (raisesW_false ?_) ?_
    · wrow_none_raised
    · wrow_post
end
end Mine
theorem PySem.Challenge.cw_pq0605_01_holds : PySem.Challenge.rw_pq0605_01.Holds :=
  Mine.law_holds
