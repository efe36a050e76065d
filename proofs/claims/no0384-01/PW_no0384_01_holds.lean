import PyProof.Rows.All
import Wide.All
import OpenK.AllK
import Wide.FinOn
import PySem.Challenge.RW_no0384_01
set_option Elab.async false
set_option linter.unusedSimpArgs false
set_option linter.unusedVariables false
set_option genInjectivity false
set_option genSizeOf false
set_option genSizeOfSpec false
set_option compiler.extract_closed false
set_option tactic.hygienic false
set_option maxHeartbeats 1000000

noncomputable section
open PySem PySem.W PyProof.Rows
set_option maxRecDepth 100000
set_option maxHeartbeats 8000000
namespace Mine
noncomputable def st1 (i : Nat) : Stmt := (PySem.Challenge.pw_no0384_01.main.body[i]?).getD (.Pass ⟨0, 0, 0, 0⟩)
set_option backward.eqns.nonrecursive false in
noncomputable def st2 (i j : Nat) : Stmt := match st1 i with
  | .ClassDef _ _ _ b _ _ _ _ _ _ _ => (b[j]?).getD (.Pass ⟨0, 0, 0, 0⟩)
  | _ => .Pass ⟨0, 0, 0, 0⟩
set_option backward.eqns.nonrecursive false in
noncomputable def fo (s : Stmt) (q m : Str) (t : Nat) (df : Value) (c : Nat) : Obj := match s with
  | .FunctionDef n a b _ _ _ sc _ _ _ => { cls := .type "function", data := .func { name := n, qualname := q, params := a, body := .stmts b, scope := sc, globals := 3, closure := [], defaults := df, kwdefaults := .none, pyModule := .str m t, code := .ref c } }
  | _ => default
noncomputable def co (n q : Str) (t : Nat) (l k : Int) (a b : Nat) (c d : Value) (e t2 : Nat) : Obj :=
  { cls := .type "code", data := .fields #[.str n t, .str q (t + 1), .str "/claim/cut.py" (t + 2), .int l 0, .int k 0, .int 0 0, .int 0 0, .int 3 0, .ref a, .bool true, .int 181 0, .ref b, .none, c, d, .ref e, .int t2 0, .int l 0, .str "/claim/cut.py" (t2 + 1)] }
noncomputable def de (P : Params) (k : Str) (t : Nat) (v : Value) : DictEntry := ⟨PyData.keyHash P k, .str k t, v⟩
noncomputable def ke3_0 (P : Params) : List DictEntry := [de P "__name__" 165 (.str ("law_no0384_01") 782), de P "__doc__" 166 (.none), de P "__package__" 167 (.none), de P "__loader__" 168 (.builtin "__main__.__loader__#opaque"), de P "__spec__" 169 (.none), de P "__annotations__" 170 (.ref 6), de P "__builtins__" 171 (.ref 4), de P "__file__" 173 (.str ("/claim/cut.py") 172), de P "__cached__" 174 (.none)]
noncomputable def ke3_1 (P : Params) : List DictEntry := [de P "_wall" 193 (.ref 21), de P "PostError" 235 (.ref 46), de P "WordFault" 251 (.ref 59), de P "MimeFault" 267 (.ref 71), de P "MOST_FIGURES" 271 (.int 20 270), de P "Cursor" 381 (.ref 155), de P "lower_code" 388 (.ref 166), de P "lower" 394 (.ref 171), de P "lower_text" 400 (.ref 176)]
noncomputable def ke3_2 (P : Params) : List DictEntry := [de P "ASCII" 404 (.str ("us-ascii") 403), de P "LATIN" 406 (.str ("iso-8859-1") 405), de P "UTF8" 408 (.str ("utf-8") 407), de P "CHARSETS" 409 (.ref 177), de P "UNKNOWN_SIGN" 412 (.str ("�") 411), de P "charset_names" 420 (.ref 184), de P "charset_name" 427 (.ref 191), de P "need_charset" 434 (.ref 198), de P "follower_span" 441 (.ref 205)]
noncomputable def ke3_3 (P : Params) : List DictEntry := [de P "utf8_sign" 455 (.ref 212), de P "sign_at" 464 (.ref 219), de P "text_in" 476 (.ref 226), de P "strict_text" 488 (.ref 233), de P "guessed_text" 495 (.ref 240), de P "MOST_DEPTH" 499 (.int 20 498), de P "NEVER_ESCAPED" 503 (.ref 241), de P "line_end" 511 (.ref 248), de P "inside_at" 521 (.ref 255)]
noncomputable def ke3_4 (P : Params) : List DictEntry := [de P "closed_at" 534 (.ref 262), de P "comment_at" 547 (.ref 269), de P "WHITE" 554 (.ref 270), de P "SEMICOLON" 556 (.int 59 555), de P "EQUALS" 558 (.int 61 557), de P "QUOTE" 560 (.int 34 559), de P "BRACKET" 562 (.int 40 561), de P "PER_CENT" 564 (.int 37 563), de P "BARRED" 566 (.bytes #[40, 41, 60, 62, 64, 44, 59, 58, 92, 34, 47, 91, 93, 63, 61] 565)]
noncomputable def ke3_5 (P : Params) : List DictEntry := [de P "HEX_FIGURES" 568 (.bytes #[48, 49, 50, 51, 52, 53, 54, 55, 56, 57, 65, 66, 67, 68, 69, 70] 567), de P "Kind" 628 (.ref 313), de P "plain_kind" 634 (.ref 324), de P "is_token_code" 641 (.ref 331), de P "skip_between" 648 (.ref 338), de P "take_token" 656 (.ref 345), de P "is_worth_code" 663 (.ref 352), de P "take_worth" 672 (.ref 359), de P "small_word" 678 (.ref 364)]
noncomputable def ke3_6 (P : Params) : List DictEntry := [de P "take_pairs" 687 (.ref 371), de P "part_number" 696 (.ref 378), de P "part_of" 706 (.ref 385), de P "hex_worth" 712 (.ref 390), de P "percent_decoded" 722 (.ref 397), de P "charset_cut" 728 (.ref 402), de P "joined_worth" 740 (.ref 409), de P "params_of" 755 (.ref 416), de P "read_value" 764 (.ref 423)]
noncomputable def ke3_7 (P : Params) : List DictEntry := [de P "strict_kind" 774 (.ref 430), de P "read_kind" 781 (.ref 437), de P "_law_pot" 789 (.ref 442), de P "_law_draw" 800 (.ref 449), de P "_law_gaps" 806 (.ref 456), de P "_law_heads" 812 (.ref 463), de P "_law_names" 818 (.ref 470), de P "_law_worths" 824 (.ref 477), de P "_law_gap" 831 (.ref 484)]
noncomputable def ke3_8 (P : Params) : List DictEntry := [de P "_law_octets" 842 (.ref 491), de P "_law_past" 851 (.ref 498), de P "_law_run" 861 (.ref 505), de P "_law_quoted" 870 (.ref 512), de P "_law_text" 876 (.ref 517), de P "_law_small" 882 (.ref 522), de P "_law_read" 898 (.ref 529), de P "_law_alike" 904 (.ref 534), de P "law" 917 (.ref 541)]
noncomputable def ke45_0 (P : Params) : List DictEntry := [de P "__module__" 203 (.str ("postkeep.errors") 194), de P "__firstlineno__" 207 (.int 5 206), de P "__init__" 218 (.ref 36), de P "told" 225 (.ref 43), de P "__static_attributes__" 228 (.ref 44), de P "__weakref__" 230 (.ref 47), de P "__doc__" 231 (.none)]
noncomputable def ke58_0 (P : Params) : List DictEntry := [de P "__module__" 243 (.str ("postkeep.errors") 194), de P "__firstlineno__" 247 (.int 14 246), de P "__static_attributes__" 248 (.ref 57), de P "__doc__" 249 (.none)]
noncomputable def ke70_0 (P : Params) : List DictEntry := [de P "__module__" 259 (.str ("postkeep.errors") 194), de P "__firstlineno__" 263 (.int 16 262), de P "__static_attributes__" 264 (.ref 69), de P "__doc__" 265 (.none)]
noncomputable def ke154_0 (P : Params) : List DictEntry := [de P "__module__" 279 (.str ("postkeep.octets") 268), de P "__firstlineno__" 283 (.int 20 282), de P "__init__" 296 (.ref 88), de P "is_done" 303 (.ref 95), de P "peek" 313 (.ref 103), de P "take" 321 (.ref 110), de P "starts" 329 (.ref 117), de P "skip" 337 (.ref 124), de P "take_while" 345 (.ref 131)]
noncomputable def ke154_1 (P : Params) : List DictEntry := [de P "take_until" 353 (.ref 138), de P "number" 362 (.ref 145), de P "find" 370 (.ref 152), de P "__static_attributes__" 374 (.ref 153), de P "__dict__" 376 (.ref 156), de P "__weakref__" 378 (.ref 157), de P "__doc__" 379 (.none)]
noncomputable def ke312_0 (P : Params) : List DictEntry := [de P "__module__" 576 (.str ("postkeep.params") 548), de P "__firstlineno__" 580 (.int 199 579), de P "__init__" 590 (.ref 284), de P "told" 596 (.ref 289), de P "is_multi" 603 (.ref 296), de P "is_letter" 610 (.ref 303), de P "is_text" 617 (.ref 310), de P "__static_attributes__" 621 (.ref 311), de P "__dict__" 623 (.ref 314)]
noncomputable def ke312_1 (P : Params) : List DictEntry := [de P "__weakref__" 625 (.ref 315), de P "__doc__" 626 (.none)]
noncomputable def kg0 (P : Params) : Frag := [(3, { cls := .type "dict", data := .dict (ke3_0 P ++ ke3_1 P ++ ke3_2 P ++ ke3_3 P ++ ke3_4 P ++ ke3_5 P ++ ke3_6 P ++ ke3_7 P ++ ke3_8 P).toArray 81 }), (29, { cls := .type "tuple", data := .seq #[.int (-1) 209] }), (35, co "__init__" "PostError.__init__" 210 7 3 30 31 (.ref 32) (.ref 33) 34 216), (36, fo (st2 2 0) "PostError.__init__" "postkeep.errors" 194 (.ref 29) 35), (45, { cls := .type "dict", data := .dict (ke45_0 P).toArray 3 }), (46, { cls := .type "type", data := .cls { name := "PostError", bases := [.type "Exception"], mro := [.ref 46, .type "Exception", .type "BaseException", .type "object"], ns := 45, qualname := "PostError", subclasses := [.ref 59, .ref 71] }, slots := #[some (.ref 22), none, some (.str ("PostError") 196), some (.str ("PostError") 204), some (.builtin "Exception.__new__"), some (.bool true)] })]
noncomputable def kg1 (P : Params) : Frag := [(58, { cls := .type "dict", data := .dict (ke58_0 P).toArray 2 }), (59, { cls := .type "type", data := .cls { name := "WordFault", bases := [.ref 46], mro := [.ref 59, .ref 46, .type "Exception", .type "BaseException", .type "object"], ns := 58, qualname := "WordFault" }, slots := #[some (.ref 50), none, some (.str ("WordFault") 236), some (.str ("WordFault") 244), some (.builtin "Exception.__new__"), some (.bool true)] }), (70, { cls := .type "dict", data := .dict (ke70_0 P).toArray 2 }), (71, { cls := .type "type", data := .cls { name := "MimeFault", bases := [.ref 46], mro := [.ref 71, .ref 46, .type "Exception", .type "BaseException", .type "object"], ns := 70, qualname := "MimeFault" }, slots := #[some (.ref 62), none, some (.str ("MimeFault") 252), some (.str ("MimeFault") 260), some (.builtin "Exception.__new__"), some (.bool true)] }), (81, { cls := .type "tuple", data := .seq #[.int 0 284, .int (-1) 286] }), (87, co "__init__" "Cursor.__init__" 287 22 4 82 83 (.ref 84) (.ref 85) 86 294)]
noncomputable def kg2 (P : Params) : Frag := [(88, fo (st2 7 0) "Cursor.__init__" "postkeep.octets" 268 (.ref 81) 87), (94, co "is_done" "Cursor.is_done" 297 27 1 89 90 (.ref 91) (.ref 92) 93 301), (95, fo (st2 7 1) "Cursor.is_done" "postkeep.octets" 268 .none 94), (96, { cls := .type "tuple", data := .seq #[.int 0 304] }), (102, co "peek" "Cursor.peek" 305 30 2 97 98 (.ref 99) (.ref 100) 101 311), (103, fo (st2 7 2) "Cursor.peek" "postkeep.octets" 268 (.ref 96) 102)]
noncomputable def kg3 (P : Params) : Frag := [(109, co "take" "Cursor.take" 314 34 1 104 105 (.ref 106) (.ref 107) 108 319), (110, fo (st2 7 3) "Cursor.take" "postkeep.octets" 268 .none 109), (116, co "starts" "Cursor.starts" 322 40 2 111 112 (.ref 113) (.ref 114) 115 327), (117, fo (st2 7 4) "Cursor.starts" "postkeep.octets" 268 .none 116), (123, co "skip" "Cursor.skip" 330 43 2 118 119 (.ref 120) (.ref 121) 122 335), (124, fo (st2 7 5) "Cursor.skip" "postkeep.octets" 268 .none 123)]
noncomputable def kg4 (P : Params) : Frag := [(154, { cls := .type "dict", data := .dict (ke154_0 P ++ ke154_1 P).toArray 4 }), (155, { cls := .type "type", data := .cls { name := "Cursor", bases := [.type "object"], mro := [.ref 155, .type "object"], ns := 154, qualname := "Cursor" }, slots := #[none, none, some (.str ("Cursor") 272), some (.str ("Cursor") 280), some (.builtin "object.__new__"), some (.bool true)] }), (165, co "lower_code" "lower_code" 382 67 1 160 161 (.ref 162) (.ref 163) 164 386), (166, fo (st1 8) "lower_code" "postkeep.octets" 268 .none 165), (170, co "lower" "lower" 389 69 1 167 168 .none .none 169 392), (171, fo (st1 9) "lower" "postkeep.octets" 268 .none 170)]
noncomputable def kg5 (P : Params) : Frag := [(177, { cls := .type "tuple", data := .seq #[.str ("us-ascii") 403, .str ("iso-8859-1") 405, .str ("utf-8") 407] }), (197, co "need_charset" "need_charset" 428 90 1 192 193 (.ref 194) (.ref 195) 196 432), (198, fo (st1 19) "need_charset" "postkeep.charsets" 401 .none 197), (204, co "follower_span" "follower_span" 435 93 1 199 200 (.ref 201) (.ref 202) 203 439), (205, fo (st1 20) "follower_span" "postkeep.charsets" 401 .none 204), (211, co "utf8_sign" "utf8_sign" 442 101 2 206 207 (.ref 208) (.ref 209) 210 453)]
noncomputable def kg6 (P : Params) : Frag := [(212, fo (st1 21) "utf8_sign" "postkeep.charsets" 401 .none 211), (218, co "sign_at" "sign_at" 456 115 3 213 214 (.ref 215) (.ref 216) 217 462), (219, fo (st1 22) "sign_at" "postkeep.charsets" 401 .none 218), (225, co "text_in" "text_in" 465 121 2 220 221 (.ref 222) (.ref 223) 224 474), (226, fo (st1 23) "text_in" "postkeep.charsets" 401 .none 225), (232, co "strict_text" "strict_text" 477 130 2 227 228 (.ref 229) (.ref 230) 231 486)]
noncomputable def kg7 (P : Params) : Frag := [(233, fo (st1 24) "strict_text" "postkeep.charsets" 401 .none 232), (239, co "guessed_text" "guessed_text" 489 141 1 234 235 (.ref 236) (.ref 237) 238 493), (240, fo (st1 25) "guessed_text" "postkeep.charsets" 401 .none 239), (241, { cls := .type "tuple", data := .seq #[.int 0 500, .int 10 501, .int 13 502] }), (247, co "line_end" "line_end" 504 149 2 242 243 (.ref 244) (.ref 245) 246 509), (248, fo (st1 29) "line_end" "postkeep.tokens" 496 .none 247)]
noncomputable def kg8 (P : Params) : Frag := [(254, co "inside_at" "inside_at" 512 153 3 249 250 (.ref 251) (.ref 252) 253 519), (255, fo (st1 30) "inside_at" "postkeep.tokens" 496 .none 254), (261, co "closed_at" "closed_at" 522 166 4 256 257 (.ref 258) (.ref 259) 260 532), (262, fo (st1 31) "closed_at" "postkeep.tokens" 496 .none 261), (268, co "comment_at" "comment_at" 535 175 2 263 264 (.ref 265) (.ref 266) 267 545), (269, fo (st1 32) "comment_at" "postkeep.tokens" 496 .none 268)]
noncomputable def kg9 (P : Params) : Frag := [(270, { cls := .type "tuple", data := .seq #[.int 9 550, .int 10 551, .int 13 552, .int 32 553] }), (283, co "__init__" "Kind.__init__" 581 201 4 278 279 (.ref 280) (.ref 281) 282 588), (284, fo (st2 42 0) "Kind.__init__" "postkeep.params" 548 .none 283), (288, co "told" "Kind.told" 591 206 1 285 286 .none .none 287 594), (289, fo (st2 42 1) "Kind.told" "postkeep.params" 548 .none 288), (295, co "is_multi" "Kind.is_multi" 597 209 1 290 291 (.ref 292) (.ref 293) 294 601)]
noncomputable def kg10 (P : Params) : Frag := [(296, fo (st2 42 2) "Kind.is_multi" "postkeep.params" 548 .none 295), (302, co "is_letter" "Kind.is_letter" 604 212 1 297 298 (.ref 299) (.ref 300) 301 608), (303, fo (st2 42 3) "Kind.is_letter" "postkeep.params" 548 .none 302), (309, co "is_text" "Kind.is_text" 611 215 1 304 305 (.ref 306) (.ref 307) 308 615), (310, fo (st2 42 4) "Kind.is_text" "postkeep.params" 548 .none 309), (312, { cls := .type "dict", data := .dict (ke312_0 P ++ ke312_1 P).toArray 4 })]
noncomputable def kg11 (P : Params) : Frag := [(313, { cls := .type "type", data := .cls { name := "Kind", bases := [.type "object"], mro := [.ref 313, .type "object"], ns := 312, qualname := "Kind" }, slots := #[none, none, some (.str ("Kind") 569), some (.str ("Kind") 577), some (.builtin "object.__new__"), some (.bool true)] }), (323, co "plain_kind" "plain_kind" 629 217 0 318 319 (.ref 320) (.ref 321) 322 632), (324, fo (st1 43) "plain_kind" "postkeep.params" 548 .none 323), (330, co "is_token_code" "is_token_code" 635 219 1 325 326 (.ref 327) (.ref 328) 329 639), (331, fo (st1 44) "is_token_code" "postkeep.params" 548 .none 330), (337, co "skip_between" "skip_between" 642 221 1 332 333 (.ref 334) (.ref 335) 336 646)]
noncomputable def kg12 (P : Params) : Frag := [(338, fo (st1 45) "skip_between" "postkeep.params" 548 .none 337), (344, co "take_token" "take_token" 649 229 1 339 340 (.ref 341) (.ref 342) 343 654), (345, fo (st1 46) "take_token" "postkeep.params" 548 .none 344), (351, co "is_worth_code" "is_worth_code" 657 236 1 346 347 (.ref 348) (.ref 349) 350 661), (352, fo (st1 47) "is_worth_code" "postkeep.params" 548 .none 351), (358, co "take_worth" "take_worth" 664 238 1 353 354 (.ref 355) (.ref 356) 357 670)]
noncomputable def kg13 (P : Params) : Frag := [(359, fo (st1 48) "take_worth" "postkeep.params" 548 .none 358), (363, co "small_word" "small_word" 673 248 1 360 361 .none .none 362 676), (364, fo (st1 49) "small_word" "postkeep.params" 548 .none 363), (370, co "take_pairs" "take_pairs" 679 250 1 365 366 (.ref 367) (.ref 368) 369 685), (371, fo (st1 50) "take_pairs" "postkeep.params" 548 .none 370), (377, co "part_number" "part_number" 688 266 1 372 373 (.ref 374) (.ref 375) 376 694)]
noncomputable def kg14 (P : Params) : Frag := [(378, fo (st1 51) "part_number" "postkeep.params" 548 .none 377), (384, co "part_of" "part_of" 697 275 1 379 380 (.ref 381) (.ref 382) 383 704), (385, fo (st1 52) "part_of" "postkeep.params" 548 .none 384), (408, co "joined_worth" "joined_worth" 729 302 1 403 404 (.ref 405) (.ref 406) 407 738), (409, fo (st1 56) "joined_worth" "postkeep.params" 548 .none 408), (415, co "params_of" "params_of" 741 313 1 410 411 (.ref 412) (.ref 413) 414 753)]
noncomputable def kg15 (P : Params) : Frag := [(416, fo (st1 57) "params_of" "postkeep.params" 548 .none 415), (422, co "read_value" "read_value" 756 331 1 417 418 (.ref 419) (.ref 420) 421 762), (423, fo (st1 58) "read_value" "postkeep.params" 548 .none 422), (429, co "strict_kind" "strict_kind" 765 336 1 424 425 (.ref 426) (.ref 427) 428 772), (430, fo (st1 59) "strict_kind" "postkeep.params" 548 .none 429), (436, co "read_kind" "read_kind" 775 346 1 431 432 (.ref 433) (.ref 434) 435 779)]
noncomputable def kg16 (P : Params) : Frag := [(437, fo (st1 60) "read_kind" "postkeep.params" 548 .none 436), (441, co "_law_pot" "_law_pot" 784 354 1 438 439 .none .none 440 787), (442, fo (st1 62) "_law_pot" "law_no0384_01" 782 .none 441), (448, co "_law_draw" "_law_draw" 790 360 2 443 444 (.ref 445) (.ref 446) 447 798), (449, fo (st1 63) "_law_draw" "law_no0384_01" 782 .none 448), (455, co "_law_gaps" "_law_gaps" 801 371 0 450 451 (.ref 452) (.ref 453) 454 804)]
noncomputable def kg17 (P : Params) : Frag := [(456, fo (st1 64) "_law_gaps" "law_no0384_01" 782 .none 455), (462, co "_law_heads" "_law_heads" 807 373 0 457 458 (.ref 459) (.ref 460) 461 810), (463, fo (st1 65) "_law_heads" "law_no0384_01" 782 .none 462), (469, co "_law_names" "_law_names" 813 375 0 464 465 (.ref 466) (.ref 467) 468 816), (470, fo (st1 66) "_law_names" "law_no0384_01" 782 .none 469), (476, co "_law_worths" "_law_worths" 819 377 0 471 472 (.ref 473) (.ref 474) 475 822)]
noncomputable def kg18 (P : Params) : Frag := [(477, fo (st1 67) "_law_worths" "law_no0384_01" 782 .none 476), (483, co "_law_gap" "_law_gap" 825 379 1 478 479 (.ref 480) (.ref 481) 482 829), (484, fo (st1 68) "_law_gap" "law_no0384_01" 782 .none 483), (490, co "_law_octets" "_law_octets" 832 381 1 485 486 (.ref 487) (.ref 488) 489 840), (491, fo (st1 69) "_law_octets" "law_no0384_01" 782 .none 490), (497, co "_law_past" "_law_past" 843 395 2 492 493 (.ref 494) (.ref 495) 496 849)]
noncomputable def kg19 (P : Params) : Frag := [(498, fo (st1 70) "_law_past" "law_no0384_01" 782 .none 497), (504, co "_law_run" "_law_run" 852 417 3 499 500 (.ref 501) (.ref 502) 503 859), (505, fo (st1 71) "_law_run" "law_no0384_01" 782 .none 504), (511, co "_law_quoted" "_law_quoted" 862 422 2 506 507 (.ref 508) (.ref 509) 510 868), (512, fo (st1 72) "_law_quoted" "law_no0384_01" 782 .none 511), (516, co "_law_text" "_law_text" 871 438 1 513 514 .none .none 515 874)]
noncomputable def kg20 (P : Params) : Frag := [(517, fo (st1 73) "_law_text" "law_no0384_01" 782 .none 516), (521, co "_law_small" "_law_small" 877 446 1 518 519 .none .none 520 880), (522, fo (st1 74) "_law_small" "law_no0384_01" 782 .none 521), (528, co "_law_read" "_law_read" 883 448 2 523 524 (.ref 525) (.ref 526) 527 896), (529, fo (st1 75) "_law_read" "law_no0384_01" 782 .none 528), (533, co "_law_alike" "_law_alike" 899 494 2 530 531 .none .none 532 902)]
noncomputable def kg21 (P : Params) : Frag := [(534, fo (st1 76) "_law_alike" "law_no0384_01" 782 .none 533), (540, co "law" "law" 905 498 1 535 536 (.ref 537) (.ref 538) 539 915), (541, fo (st1 77) "law" "law_no0384_01" 782 .none 540)]
noncomputable def KZ (P : Params) : Frag := kg0 P ++ (kg1 P ++ (kg2 P ++ (kg3 P ++ (kg4 P ++ (kg5 P ++ (kg6 P ++ (kg7 P ++ (kg8 P ++ (kg9 P ++ (kg10 P ++ (kg11 P ++ (kg12 P ++ (kg13 P ++ (kg14 P ++ (kg15 P ++ (kg16 P ++ (kg17 P ++ (kg18 P ++ (kg19 P ++ (kg20 P ++ (kg21 P)))))))))))))))))))))
noncomputable def KA : List Nat := [3, 29, 35, 36, 45, 46, 58, 59, 70, 71, 81, 87, 88, 94, 95, 96, 102, 103, 109, 110, 116, 117, 123, 124, 154, 155, 165, 166, 170, 171, 177, 197, 198, 204, 205, 211, 212, 218, 219, 225, 226, 232, 233, 239, 240, 241, 247, 248, 254, 255, 261, 262, 268, 269, 270, 283, 284, 288, 289, 295, 296, 302, 303, 309, 310, 312, 313, 323, 324, 330, 331, 337, 338, 344, 345, 351, 352, 358, 359, 363, 364, 370, 371, 377, 378, 384, 385, 408, 409, 415, 416, 422, 423, 429, 430, 436, 437, 441, 442, 448, 449, 455, 456, 462, 463, 469, 470, 476, 477, 483, 484, 490, 491, 497, 498, 504, 505, 511, 512, 516, 517, 521, 522, 528, 529, 533, 534, 540, 541]
theorem kf_at (P : Params) : KA = (KZ P).map (·.1) := by kernel_rfl
noncomputable def vwp (p : Program) : Program := view p [0, 2, 3, 4, 6, 7, 8, 9, 10, 12, 13, 14, 15, 16, 17, 18, 19, 20, 21, 22, 23, 24, 25, 27, 28, 29, 30, 31, 32, 34, 35, 36, 37, 38, 39, 40, 41, 42, 43, 44, 45, 46, 47, 48, 49, 50, 51, 52, 53, 54, 55, 56, 57, 58, 59, 60, 62, 63, 64, 65, 66, 67, 68, 69, 70, 71, 72, 73, 74, 75, 76, 77]
noncomputable def vw : Program := vwp PySem.Challenge.pw_no0384_01
noncomputable def loose : List Str := ["PostError", "CHARSETS", "UNKNOWN_SIGN"]
noncomputable def Xtp (p : Program) (s : Shared) : Bool := xlAt (vwp p) [] s && recOk [] s
set_option backward.eqns.nonrecursive false in
noncomputable def runT (tb : String → Option Builtin) (p : Program) (w : World) (n₀ : Nat) (ann : Option Value) : Nat → SharedT → Thread → Option SharedT
  | 0, _, _ => none
  | n + 1, s, t => match through t with
    | true => some s
    | false => match stepOk n₀ ann t with
      | false => none
      | true => match stepT (denote tb) p w s t with
        | some (s', t') => runT tb p w n₀ ann n s' t'
        | none => none
theorem runT_of {tb : String → Option Builtin} {p : Program} {w : World} {n₀ : Nat} {ann : Option Value} : ∀ {n : Nat} {s s' : SharedT} {t : Thread}, runT tb p w n₀ ann n s t = some s' → topRun tb p w n₀ ann n s.abs t = some s'.abs
  | 0, _, _, _, h => by cases h
  | n + 1, s, s', t, h => by
    unfold runT at h
    unfold topRun
    cases he : through t with
    | true => rw [he] at h; cases h; rfl
    | false =>
      rw [he] at h
      cases hk : stepOk n₀ ann t with
      | false => rw [hk] at h; cases h
      | true =>
        rw [hk] at h
        cases hs : stepT (denote tb) p w s t with
        | none => rw [hs] at h; cases h
        | some r => obtain ⟨s₂, t₂⟩ := r; rw [hs] at h; dsimp only; rw [stepT_spec hs]; exact runT_of h
set_option backward.eqns.nonrecursive false in
noncomputable def insAll : List Obj → BT → Nat → BT
  | [], t, _ => t
  | o :: r, t, n => insAll r (t.ins n o) (n + 1)
set_option backward.eqns.nonrecursive false in
noncomputable def insOk : List Obj → BT → Nat → Bool
  | [], _, _ => true
  | o :: r, t, n => ((t.ins n o).get n).isSome && insOk r (t.ins n o) (n + 1)
theorem insAll_abs {life : Life} : ∀ {l : List Obj} {t : BT} {n : Nat}, insOk l t n = true → absHeap (insAll l t n) (n + l.length) life = ⟨(absHeap t n life).objs ++ l.toArray, life⟩
  | [], t, n, _ => by simp [insAll, absHeap]
  | o :: r, t, n, h => by
    rw [insOk, Bool.and_eq_true] at h
    have := insAll_abs (life := life) h.2
    rw [absHeap_ins h.1] at this
    rw [insAll, List.length_cons, show n + (r.length + 1) = n + 1 + r.length by omega, this]
    show Heap.mk ((absHeap t n life).objs.push o ++ r.toArray) life = _
    congr 1
    simp
noncomputable def toT (s : Shared) : SharedT := ⟨insAll s.heap.objs.toList .nil 0, s.heap.objs.size, s.heap.life, s.gens, s.drawn, s.toks, s.os⟩
theorem toT_abs {s : Shared} (h : insOk s.heap.objs.toList .nil 0 = true) : (toT s).abs = s := by
  obtain ⟨⟨objs, life⟩, g, d, k, os⟩ := s
  have := insAll_abs (life := life) h
  simp only [Nat.zero_add, Array.length_toList, absHeap, BT.list, List.range_zero, List.map_nil] at this
  simp only [toT, SharedT.abs, absHeap, BT.list, this]
  simp
noncomputable def LL (p : Program) (w : World) := (openEnds treeTable p w 6792).map fun s => (openSeen (vwp p) loose (importedModules p.main.body) (Xtp p) true s, KA.map s.heap.get?)
noncomputable def RR (p : Program) (w : World) := some (openGood (vwp p) loose, (KZ w.params).map fun q => some q.2)
set_option backward.eqns.nonrecursive false in
noncomputable def ends (p : Program) (w : World) : Option (Shared × Shared) := (fencedOpening treeTable p w 6792).bind fun s₀ => match s₀.heap.isNs mainGlobals && s₀.gens.size == 0 && insOk s₀.heap.objs.toList .nil 0 with
  | true => (runT treeTable p w s₀.heap.objs.size (s₀.heap.nsMap mainGlobals "__annotations__") 6792 (toT s₀) (topStub p)).map fun s₁ => (s₀, s₁.abs)
  | false => none
noncomputable def L1 (p : Program) (w : World) := (ends p w).map fun x => seen ((recsOf (vwp p)).map (·.name)) (ownsOf (vwp p)) [] { x.2 with gens := #[] }
noncomputable def R1 (p : Program) (_ : World) := some (expectedOf (vwp p))
noncomputable def L2 (p : Program) (w : World) := (ends p w).map fun x => (x.2.heap.bltView, (x.2.heap.keysOk (looseW (vwp p) loose) ((recsOf (vwp p)).map (·.name)) ((litsOf (vwp p)).map (·.1)) ((clssOf (vwp p) (looseW (vwp p) loose)).map (·.name)) && x.2.heap.accountedOkI (importedModules p.main.body) && x.2.heap.isNs mainGlobals && x.2.heap.isNs builtinsNs && tablesOk (vwp p) x.2.heap && Xtp p x.2 && (x.2.gens.size == 0),
  tabsOk (vwp p) x.2 && (staticsOk (importedModules p.main.body) x.1.heap x.2.heap && namesBound p x.2.heap && gensDone x.2 && laidKept x.1.heap x.2.heap)))
noncomputable def R2 (_ : Program) (_ : World) := some (bltViewBooted, (true, true))
noncomputable def L3 (p : Program) (w : World) := (ends p w).map fun x => (pinSeenD (vwp p) (drecsOf (vwp p)) x.2, plainSeenE (vwp p) (looseW (vwp p) loose) x.2, plainSeenD (vwp p) loose x.2, wideSeen (vwp p) x.2, clsSeenW (vwp p) loose x.2)
noncomputable def R3 (p : Program) (_ : World) := some (pinGoodD (drecsOf (vwp p)), plainGoodE (vwp p) (looseW (vwp p) loose), plainGoodD (vwp p) loose, wideGood (vwp p), clsGoodW (vwp p) loose)
noncomputable def L4 (p : Program) (w : World) := (ends p w).map fun x => KA.map x.2.heap.get?
noncomputable def R4 (w : World) := some ((KZ w.params).map fun q => some q.2)
set_option tactic.hygienic true in
theorem ll_of {p : Program} {w : World} (h1 : L1 p w = R1 p w) (h2 : L2 p w = R2 p w) (h3 : L3 p w = R3 p w) (h4 : L4 p w = R4 w) : LL p w = RR p w := by
  obtain ⟨⟨s₀, s₁⟩, e, e1⟩ := Option.map_eq_some_iff.mp h1
  have e2 : _ = (_, _, _) := Option.some.inj ((congrArg (Option.map _) e).symm.trans h2)
  have e3 : _ = (_, _, _, _, _) := Option.some.inj ((congrArg (Option.map _) e).symm.trans h3)
  have e4 := Option.some.inj ((congrArg (Option.map _) e).symm.trans h4)
  simp only [Prod.mk.injEq] at e2 e3
  have e5 := Bool.and_eq_true_iff.mp e2.2.2
  unfold ends at e
  obtain ⟨s₀', h0, h⟩ := Option.bind_eq_some_iff.mp e
  split at h
  · rename_i hc
    rw [Bool.and_eq_true] at hc
    obtain ⟨s₁', h1, h⟩ := Option.map_eq_some_iff.mp h
    cases h
    have r := runT_of h1
    rw [toT_abs hc.2] at r
    unfold LL RR openEnds topFrom
    rw [h0, Option.bind_some, hc.1]
    dsimp only
    rw [r, Option.bind_some, e5.2]
    show some (_, _) = some (_, _)
    unfold openSeen openGood
    rw [e1, e2.1, e5.1, e3.1, e3.2.1, e3.2.2.1, e3.2.2.2.1, e3.2.2.2.2, e4]
    simp only [if_true]
    rw [e2.2.1]
  · cases h
lay_quick Mine.L1
lay_quick Mine.R1
theorem l1E : L1 = L1 := rfl
theorem r1E : R1 = R1 := rfl
name_quick l1q for Mine.L1 by Mine.l1E
name_quick r1q for Mine.R1 by Mine.r1E
theorem run1 : ∀ w, PySem.W.Fast.l1q PySem.Challenge.pw_no0384_01 w = PySem.W.Fast.r1q PySem.Challenge.pw_no0384_01 w := by intro w; kernel_rfl
theorem end1 (w : World) : L1 PySem.Challenge.pw_no0384_01 w = R1 PySem.Challenge.pw_no0384_01 w := (congrFun (congrFun PySem.W.Fast.l1q_eq _) w).trans ((run1 w).trans (congrFun (congrFun PySem.W.Fast.r1q_eq _) w).symm)
lay_quick Mine.L2
lay_quick Mine.R2
theorem l2E : L2 = L2 := rfl
theorem r2E : R2 = R2 := rfl
name_quick l2q for Mine.L2 by Mine.l2E
name_quick r2q for Mine.R2 by Mine.r2E
theorem run2 : ∀ w, PySem.W.Fast.l2q PySem.Challenge.pw_no0384_01 w = PySem.W.Fast.r2q PySem.Challenge.pw_no0384_01 w := by intro w; kernel_rfl
theorem end2 (w : World) : L2 PySem.Challenge.pw_no0384_01 w = R2 PySem.Challenge.pw_no0384_01 w := (congrFun (congrFun PySem.W.Fast.l2q_eq _) w).trans ((run2 w).trans (congrFun (congrFun PySem.W.Fast.r2q_eq _) w).symm)
lay_quick Mine.L3
lay_quick Mine.R3
theorem l3E : L3 = L3 := rfl
theorem r3E : R3 = R3 := rfl
name_quick l3q for Mine.L3 by Mine.l3E
name_quick r3q for Mine.R3 by Mine.r3E
theorem run3 : ∀ w, PySem.W.Fast.l3q PySem.Challenge.pw_no0384_01 w = PySem.W.Fast.r3q PySem.Challenge.pw_no0384_01 w := by intro w; kernel_rfl
theorem end3 (w : World) : L3 PySem.Challenge.pw_no0384_01 w = R3 PySem.Challenge.pw_no0384_01 w := (congrFun (congrFun PySem.W.Fast.l3q_eq _) w).trans ((run3 w).trans (congrFun (congrFun PySem.W.Fast.r3q_eq _) w).symm)
lay_quick Mine.L4
theorem l4E : L4 = L4 := rfl
name_quick l4q for Mine.L4 by Mine.l4E
theorem run4 : ∀ w, PySem.W.Fast.l4q PySem.Challenge.pw_no0384_01 w = R4 w := by intro w; kernel_rfl
theorem end4 (w : World) : L4 PySem.Challenge.pw_no0384_01 w = R4 w := (congrFun (congrFun PySem.W.Fast.l4q_eq _) w).trans (run4 w)
theorem left (w : World) : LL PySem.Challenge.pw_no0384_01 w = RR PySem.Challenge.pw_no0384_01 w := ll_of (end1 w) (end2 w) (end3 w) (end4 w)
end Mine
end

noncomputable section
open PySem PySem.W PyProof.Rows PySem.Calls PySem.Spec
set_option maxRecDepth 100000
namespace Mine

inductive AV where
  | none | bool (b : Bool) | int (i : Int) | str (s : Str) | bytes (b : List UInt8)
  | tup (l : List AV) | obj (i : Nat)

inductive AO where
  | list (l : List AV) | dict (l : List (Str × AV)) (n : Nat) | inst (c : Nat) (l : List (Nat × AV))

noncomputable abbrev Hp := List AO
structure St where
  loc : List (Option AV)
  hp : Hp

noncomputable abbrev QV := AV → St → Prop
noncomputable abbrev QX := Nat → St → Prop
noncomputable abbrev Fn := Bool → Nat → List AV → Hp → (AV → Hp → Prop) → (Nat → Hp → Prop) → Prop

inductive Bl where
  | len | chr | bytes | int | abs | sorted | tuple
set_option backward.eqns.nonrecursive false in
noncomputable def Bl.name : Bl → Str
  | .len => "len" | .chr => "chr" | .bytes => "bytes" | .int => "int" | .abs => "abs" | .sorted => "sorted" | .tuple => "tuple"
set_option backward.eqns.nonrecursive false in
noncomputable def anm : Nat → Str
  | 0 => "data" | 1 => "at" | 2 => "end" | 3 => "top" | 4 => "sub" | 5 => "params"
  | 10 => "is_done" | 11 => "peek" | 12 => "take" | 13 => "starts" | 14 => "skip" | 15 => "told" | 16 => "is_multi" | 17 => "is_letter" | 18 => "is_text"
  | _ => "what"

mutual
inductive E where
  | raw (e : PySem.Expr)
  | con (c : Const) (k : Nat) (p : Pos)
  | loc (x : Str) (i : Nat) (p : Pos)
  | glo (x : Str) (k : Nat) (p : Pos)
  | bin (a : E) (o : Operator) (b : E) (p : Pos)
  | neg (a : E) (p : Pos)
  | nt (a : E) (p : Pos)
  | ife (t a b : E) (p : Pos)
  | and (a b : E) (p : Pos)
  | or (a b : E) (p : Pos)
  | or3 (a b c : E) (p : Pos)
  | cmp (a : E) (o : CmpOp) (b : E) (p : Pos)
  | cmp2 (a : E) (o₁ : CmpOp) (b : E) (o₂ : CmpOp) (c : E) (p : Pos)
  | tup (es : Es) (k : Nat) (p : Pos)
  | lst (es : Es) (p : Pos)
  | dic0 (p : Pos)
  | dic1 (k v : Str) (pk pv : Pos) (p : Pos)
  | sub (a i : E) (p : Pos)
  | slLU (a l u : E) (ps p : Pos)
  | slL (a l : E) (ps p : Pos)
  | slU (a u : E) (ps p : Pos)
  | att (a : E) (n : Nat) (p : Pos)
  | call (x : Str) (f : Nat) (px : Pos) (es : Es) (p : Pos)
  | met (a : E) (n : Nat) (es : Es) (pa p : Pos)
  | blt (x : Bl) (px : Pos) (es : Es) (p : Pos)
  | app (a e : E) (pa p : Pos)
  | joi (a e : E) (pa p : Pos)
  | fnd (a e : E) (pa p : Pos)
  | dget (k v : Int) (pk pv pd : Pos) (x : Str) (i : Nat) (px : Pos) (j : Int) (pj : Pos) (pa p : Pos)
  | com (elt : E) (x : Str) (px : Pos) (it : E) (sc : Scope) (p : Pos)
  | comc (elt : E) (x : Str) (px : Pos) (it : E) (c : E) (sc : Scope) (p : Pos)
inductive Es where
  | nil
  | cons (e : E) (r : Es)
end

mutual
inductive S where
  | raw (s : PySem.Stmt)
  | asg (x : Str) (i : Nat) (px : Pos) (e : E) (p : Pos)
  | asgC (x : Str) (i : Nat) (px : Pos) (e : E) (p : Pos)
  | asg2 (x : Str) (i : Nat) (px : Pos) (y : Str) (j : Nat) (py : Pos) (k : Nat) (pt : Pos) (e : E) (p : Pos)
  | asg3 (x : Str) (i : Nat) (px : Pos) (y : Str) (j : Nat) (py : Pos) (z : Str) (l : Nat) (pz : Pos) (k : Nat) (pt : Pos) (e : E) (p : Pos)
  | asgA (x : Str) (i : Nat) (px : Pos) (o : E) (n : Nat) (pa : Pos) (k : Nat) (pt : Pos) (e : E) (p : Pos)
  | ast (o : E) (n : Nat) (pa : Pos) (e : E) (p : Pos)
  | sst (o i : E) (ps : Pos) (e : E) (p : Pos)
  | exp (e : E) (p : Pos)
  | ite (t : E) (a b : Ss) (p : Pos)
  | whl (t : E) (b : Ss) (p : Pos)
  | for1 (x : Str) (i : Nat) (px : Pos) (it : E) (b : Ss) (p : Pos)
  | forR (x : Str) (i : Nat) (px : Pos) (pr : Pos) (es : Es) (pc : Pos) (b : Ss) (p : Pos)
  | for2 (x : Str) (i : Nat) (px : Pos) (y : Str) (j : Nat) (py : Pos) (k : Nat) (pt : Pos) (it : E) (b : Ss) (p : Pos)
  | ret (e : E) (p : Pos)
  | rse (x : Str) (c : Nat) (px : Pos) (es : Es) (pc p : Pos)
  | tr (b : Ss) (x : Str) (c : Nat) (px : Pos) (h : Ss) (ph p : Pos)
  | cont (p : Pos)
  | ret0 (p : Pos)
inductive Ss where
  | nil
  | cons (s : S) (r : Ss)
end

set_option backward.eqns.nonrecursive false in
mutual
noncomputable def emb : E → PySem.Expr
  | .raw e => e
  | .con c k p => .Constant c k p
  | .loc x _ p => .Name x p
  | .glo x _ p => .Name x p
  | .bin a o b p => .BinOp (emb a) o (emb b) p
  | .neg a p => .UnaryOp .USub (emb a) p
  | .nt a p => .UnaryOp .Not (emb a) p
  | .ife t a b p => .IfExp (emb t) (emb a) (emb b) p
  | .and a b p => .BoolOp .And [emb a, emb b] p
  | .or a b p => .BoolOp .Or [emb a, emb b] p
  | .or3 a b c p => .BoolOp .Or [emb a, emb b, emb c] p
  | .cmp a o b p => .Compare (emb a) [o] [emb b] p
  | .cmp2 a o₁ b o₂ c p => .Compare (emb a) [o₁, o₂] [emb b, emb c] p
  | .tup es k p => .Tuple (embs es) k p
  | .lst es p => .List (embs es) p
  | .dic0 p => .Dict [] [] p
  | .dic1 k v pk pv p => .Dict [some (.Constant (.str k) 0 pk)] [.Constant (.str v) 0 pv] p
  | .sub a i p => .Subscript (emb a) (emb i) p
  | .slLU a l u ps p => .Subscript (emb a) (.Slice (some (emb l)) (some (emb u)) none ps) p
  | .slL a l ps p => .Subscript (emb a) (.Slice (some (emb l)) none none ps) p
  | .slU a u ps p => .Subscript (emb a) (.Slice none (some (emb u)) none ps) p
  | .att a n p => .Attribute (emb a) (anm n) p
  | .call x _ px es p => .Call (.Name x px) (embs es) [] p
  | .met a n es pa p => .Call (.Attribute (emb a) (anm n) pa) (embs es) [] p
  | .blt x px es p => .Call (.Name x.name px) (embs es) [] p
  | .app a e pa p => .Call (.Attribute (emb a) "append" pa) [emb e] [] p
  | .joi a e pa p => .Call (.Attribute (emb a) "join" pa) [emb e] [] p
  | .fnd a e pa p => .Call (.Attribute (emb a) "find" pa) [emb e] [] p
  | .dget k v pk pv pd x _ px j pj pa p => .Call (.Attribute (.Dict [some (.Constant (.int k) 0 pk)] [.Constant (.int v) 0 pv] pd) "get" pa) [.Name x px, .Constant (.int j) 0 pj] [] p
  | .com elt x px it sc p => .ListComp (emb elt) [⟨.Name x px, emb it, [], 0⟩] sc p
  | .comc elt x px it c sc p => .ListComp (emb elt) [⟨.Name x px, emb it, [emb c], 0⟩] sc p
noncomputable def embs : Es → List PySem.Expr
  | .nil => []
  | .cons e r => emb e :: embs r
end

set_option backward.eqns.nonrecursive false in
mutual
noncomputable def embS : S → PySem.Stmt
  | .raw s => s
  | .asg x _ px e p => .Assign [.Name x px] (emb e) p
  | .asgC x _ px e p => .Assign [.Name x px] (emb e) p
  | .asg2 x _ px y _ py k pt e p => .Assign [.Tuple [.Name x px, .Name y py] k pt] (emb e) p
  | .asg3 x _ px y _ py z _ pz k pt e p => .Assign [.Tuple [.Name x px, .Name y py, .Name z pz] k pt] (emb e) p
  | .asgA x _ px o n pa k pt e p => .Assign [.Tuple [.Name x px, .Attribute (emb o) (anm n) pa] k pt] (emb e) p
  | .ast o n pa e p => .Assign [.Attribute (emb o) (anm n) pa] (emb e) p
  | .sst o i ps e p => .Assign [.Subscript (emb o) (emb i) ps] (emb e) p
  | .exp e p => .Expr (emb e) p
  | .ite t a b p => .If (emb t) (embSs a) (embSs b) p
  | .whl t b p => .While (emb t) (embSs b) [] p
  | .for1 x _ px it b p => .For (.Name x px) (emb it) (embSs b) [] p
  | .forR x _ px pr es pc b p => .For (.Name x px) (.Call (.Name "range" pr) (embs es) [] pc) (embSs b) [] p
  | .for2 x _ px y _ py k pt it b p => .For (.Tuple [.Name x px, .Name y py] k pt) (emb it) (embSs b) [] p
  | .ret e p => .Return (some (emb e)) p
  | .rse x _ px es pc p => .Raise (some (.Call (.Name x px) (embs es) [] pc)) none p
  | .tr b x _ px h ph p => .Try (embSs b) [.ExceptHandler (some (.Name x px)) none (embSs h) ph] [] [] p
  | .cont p => .Continue p
  | .ret0 p => .Return none p
noncomputable def embSs : Ss → List PySem.Stmt
  | .nil => []
  | .cons s r => embS s :: embSs r
end

section
variable {l b c m n x y a : Nat}
theorem o1 (h : l - b = m) (q : b < l) : l - (b + 1) < m := by omega
theorem o2 (h : l - b = m) (q : b + 1 < l) : l - (b + 2) < m := by omega
theorem o4 (h : x + (l - b) ≤ n) (q : b < l) : x + 1 + (l - (b + 1)) ≤ n := by omega
theorem o5 (h : x + (l - b) ≤ n) (q : b + 1 < l) : x + 1 + (l - (b + 2)) ≤ n := by omega
theorem o6 (h : x + (l - b) ≤ n) (q : b + 1 < l) : x + (l - (b + 2)) ≤ n := by omega
theorem o7 (h : x + (l - b) ≤ n) (q : b < l) : x + (l - (b + 1)) ≤ n := by omega
theorem o8 (h : x + y ≤ n) : x ≤ n := by omega
theorem o9 (h : l - b = m) (q : b < c) (r : c ≤ l) : l - c < m := by omega
theorem oa (h : x + (l - b) ≤ n) (q : b < c) (r : c ≤ l) : x + 1 + (l - c) ≤ n := by omega
theorem ob (h : l ≤ n) : 0 + (l - b) ≤ n := by omega
theorem oc (h : x + y ≤ n) (q : n < a) : x < a := by omega
theorem od (h : x ≤ y) (q : y ≤ l) (r : l < a) (s : a ≤ n) : x ≤ n := by omega
theorem oe {z w : Int} (h : z - 1 = w) : w ≤ z + -1 := by omega
theorem of' (q : b < l) : ¬ l ≤ b := by omega
theorem og (h : b = l) : l ≤ b := by omega
theorem oh (h : y + 1 = x) : y < x := by omega
theorem oi (h : x ≤ n) (q : b = x) : b ≤ n := by omega
theorem oj (h : b < l) (q : x = b) : x < l := by omega
theorem ok' {z : Int} (h : 0 ≤ z) (q : z < 2147483648) : -2 ^ 63 < z ∧ z < 2 ^ 63 := by omega
theorem om (h : x ≤ y) (q : y < n) : x < n := by omega
theorem on' (h : b < l) : (b : Int) < l := by omega
theorem op (h : l ≤ b) : (l : Int) ≤ b := by omega
theorem oq (h : b < l) : ¬ (l : Int) ≤ b := by omega
theorem or' (h : 1 ≤ x) : (x : Int) - 1 = ((x - 1 : Nat) : Int) := by omega
theorem ot (h : b < l) : b + 1 ≤ l := h
theorem ou (h : b + 1 < l) : b + 2 ≤ l := h
theorem os (h : 1 ≤ x) : 1 ≤ x + 1 := by omega
end
end Mine
end

local macro_rules
  | `(tactic| omega) => `(tactic| first | with_reducible (first | assumption | exact Mine.ot (by assumption) | exact Mine.ou (by assumption) | exact Mine.o1 (by assumption) (by assumption) | exact Mine.o2 (by assumption) (by assumption) | exact Mine.o4 (by assumption) (by assumption) | exact Mine.o5 (by assumption) (by assumption) | exact Mine.o6 (by assumption) (by assumption) | exact Mine.o7 (by assumption) (by assumption) | exact Mine.o9 (by assumption) (by assumption) (by assumption) | exact Mine.oa (by assumption) (by assumption) (by assumption) | exact Mine.ob (by assumption) | exact Mine.og (by assumption) | exact Mine.of' (by assumption) | exact Mine.oh (by assumption) | exact Mine.oe (by assumption) | exact Mine.or' (by assumption) | exact Mine.on' (by assumption) | exact Mine.op (by assumption) | exact Mine.oq (by assumption) | exact Mine.oi (by assumption) (by assumption) | exact Mine.oj (by assumption) (by assumption) | exact Mine.ok' (by assumption) (by assumption) | exact Mine.om (by assumption) (by assumption) | exact Mine.o8 (by assumption) | exact Mine.oc (by assumption) (by simp only [Nat.reduceLT]) | exact Mine.od (by assumption) (by assumption) (by assumption) (by simp only [Nat.reduceLeDiff]) | exact Mine.os (by assumption)) | lia -matchEqs -splitMatch | omega +splitDisjunctions)

noncomputable section
open PySem PySem.W PyProof.Rows PySem.Calls PySem.Spec
set_option maxRecDepth 100000
namespace Mine
theorem nof {p : Prop} (h : false = true) : p := absurd h Bool.false_ne_true
theorem non {α : Type} {x : α} {p : Prop} (h : none = some x) : p := absurd h fun q => by cases q
theorem nns {α : Type} {x : α} : (none : Option α) ≠ some x := fun q => non q

set_option backward.eqns.nonrecursive false in
noncomputable def ifB (b : Bool) (P Q : Prop) : Prop := match b with
  | true => P
  | false => Q

set_option backward.eqns.nonrecursive false in
noncomputable def isB (v : AV) (P : Bool → Prop) : Prop := match v with
  | .bool b => P b
  | _ => False

noncomputable abbrev St.set (st : St) (i : Nat) (v : AV) : St := ⟨st.loc.set i (some v), st.hp⟩
noncomputable abbrev St.put (st : St) (i : Nat) (o : AO) : St := ⟨st.loc, st.hp.set i o⟩

set_option backward.eqns.nonrecursive false in
noncomputable def isI (v : AV) (P : Int → Prop) : Prop := match v with
  | .int b => P b
  | _ => False
set_option backward.eqns.nonrecursive false in
noncomputable def isSt (v : AV) (P : Str → Prop) : Prop := match v with
  | .str s => P s
  | _ => False
set_option backward.eqns.nonrecursive false in
noncomputable def isY (v : AV) (P : List UInt8 → Prop) : Prop := match v with
  | .bytes b => P b
  | _ => False
set_option backward.eqns.nonrecursive false in
noncomputable def isT (v : AV) (P : List AV → Prop) : Prop := match v with
  | .tup l => P l
  | _ => False
set_option backward.eqns.nonrecursive false in
noncomputable def isO (v : AV) (P : Nat → Prop) : Prop := match v with
  | .obj j => P j
  | _ => False
set_option backward.eqns.nonrecursive false in
noncomputable def isN (v : AV) (P : Prop) : Prop := match v with
  | .none => P
  | _ => False
set_option backward.eqns.nonrecursive false in
noncomputable def onO {α : Type} (o : Option α) (P : α → Prop) : Prop := match o with
  | some x => P x
  | none => False
set_option backward.eqns.nonrecursive false in
noncomputable def atL (o : Option AO) (P : List AV → Prop) : Prop := match o with
  | some x => (match x with
      | .list l => P l
      | _ => False)
  | none => False
set_option backward.eqns.nonrecursive false in
noncomputable def atD (o : Option AO) (P : List (Str × AV) → Nat → Prop) : Prop := match o with
  | some x => (match x with
      | .dict d n => P d n
      | _ => False)
  | none => False
set_option backward.eqns.nonrecursive false in
noncomputable def atI (o : Option AO) (P : Nat → List (Nat × AV) → Prop) : Prop := match o with
  | some x => (match x with
      | .inst c l => P c l
      | _ => False)
  | none => False
section
variable {v : AV} {o : AO}
theorem isI_inv {P : Int → Prop} (h : isI v P) : ∃ i, v = .int i ∧ P i := by cases v <;> first | exact ⟨_, rfl, h⟩ | exact h.elim
theorem isB_inv {P : Bool → Prop} (h : isB v P) : ∃ i, v = .bool i ∧ P i := by cases v <;> first | exact ⟨_, rfl, h⟩ | exact h.elim
theorem isSt_inv {P : Str → Prop} (h : isSt v P) : ∃ i, v = .str i ∧ P i := by cases v <;> first | exact ⟨_, rfl, h⟩ | exact h.elim
theorem isY_inv {P : List UInt8 → Prop} (h : isY v P) : ∃ i, v = .bytes i ∧ P i := by cases v <;> first | exact ⟨_, rfl, h⟩ | exact h.elim
theorem isT_inv {P : List AV → Prop} (h : isT v P) : ∃ i, v = .tup i ∧ P i := by cases v <;> first | exact ⟨_, rfl, h⟩ | exact h.elim
theorem isO_inv {P : Nat → Prop} (h : isO v P) : ∃ i, v = .obj i ∧ P i := by cases v <;> first | exact ⟨_, rfl, h⟩ | exact h.elim
theorem isN_inv {P : Prop} (h : isN v P) : v = .none ∧ P := by cases v <;> first | exact ⟨rfl, h⟩ | exact h.elim
theorem onO_inv {α : Type} {o : Option α} {P : α → Prop} (h : onO o P) : ∃ x, o = some x ∧ P x := by cases o <;> first | exact ⟨_, rfl, h⟩ | exact h.elim
theorem atL_inv {o : Option AO} {P : List AV → Prop} (h : atL o P) : ∃ l, o = some (.list l) ∧ P l := by
  cases o with
  | none => exact h.elim
  | some x => cases x <;> first | exact ⟨_, rfl, h⟩ | exact h.elim
theorem atD_inv {o : Option AO} {P : List (Str × AV) → Nat → Prop} (h : atD o P) : ∃ d n, o = some (.dict d n) ∧ P d n := by
  cases o with
  | none => exact h.elim
  | some x => cases x <;> first | exact ⟨_, _, rfl, h⟩ | exact h.elim
theorem atI_inv {o : Option AO} {P : Nat → List (Nat × AV) → Prop} (h : atI o P) : ∃ c l, o = some (.inst c l) ∧ P c l := by
  cases o with
  | none => exact h.elim
  | some x => cases x <;> first | exact ⟨_, _, rfl, h⟩ | exact h.elim
end

set_option backward.eqns.nonrecursive false in
noncomputable def truthQ (v : AV) (hp : Hp) (P : Bool → Prop) : Prop := match v with
  | .bool b => P b
  | .obj i => atL hp[i]? fun l => P (!l.isEmpty)
  | _ => False

set_option backward.eqns.nonrecursive false in
noncomputable def finQ (m : Bool) (Q : QV) (v : AV) (st : St) : Prop := match m with
  | false => Q v st
  | true => truthQ v st.hp (fun b => Q (.bool b) st)

set_option backward.eqns.nonrecursive false in
noncomputable def constV : Const → Option AV
  | .none => some .none
  | .bool b => some (.bool b)
  | .int i => some (.int i)
  | .str s => some (.str s)
  | .bytes b => some (.bytes b)
  | _ => none

noncomputable def small (i : Int) : Prop := -(2 ^ 63) < i ∧ i < 2 ^ 63

set_option backward.eqns.nonrecursive false in
noncomputable def binQ (o : Operator) (a b : AV) (P : AV → Prop) : Prop := match o with
  | .Add => (match a with
      | .int x => isI b fun y => P (.int (x + y))
      | .bytes x => isY b fun y => x.length + y.length ≤ 16777216 ∧ P (.bytes (x ++ y))
      | .str x => isSt b fun y => x.length + y.length ≤ 16777216 ∧ P (.str (x ++ y))
      | _ => False)
  | .Sub => isI a fun x => isI b fun y => P (.int (x - y))
  | .Mult => isI a fun x => isI b fun y => small x ∧ small y ∧ P (.int (x * y))
  | .FloorDiv => isI a fun x => isI b fun y => y ≠ 0 ∧ y.natAbs < 1073741824 ∧ P (.int (x.fdiv y))
  | .Mod => isI a fun x => isI b fun y => y ≠ 0 ∧ P (.int (x.fmod y))
  | .Pow => isI a fun x => isI b fun y => small x ∧ 0 ≤ y ∧ y ≤ 1000 ∧ P (.int (x ^ y.toNat))
  | .RShift => isI a fun x => isI b fun y => 0 ≤ y ∧ P (.int (x.fdiv (2 ^ y.toNat)))
  | _ => False

set_option backward.eqns.nonrecursive false in
mutual
noncomputable def pyV : AV → Option PyData
  | .none => some .none
  | .bool b => some (.bool b)
  | .int i => some (.int i)
  | .str s => some (.str s)
  | .tup l => (pyL l).map .tuple
  | .bytes _ => none
  | .obj _ => none
noncomputable def pyL : List AV → Option (List PyData)
  | [] => some []
  | x :: r => (match pyV x, pyL r with
      | some a, some b => some (a :: b)
      | _, _ => none)
end

noncomputable def eqL (l r : List AV) (P : Bool → Prop) : Prop := onO (pyL l) fun xs => onO (pyL r) fun ys =>
  PyData.canLayAll0 xs = true ∧ PyData.canLayAll0 ys = true ∧ PyData.depthAll xs ≤ 20 ∧ P (PyData.eqvAll xs ys)
set_option backward.eqns.nonrecursive false in
noncomputable def eqQ (a b : AV) (hp : Hp) (P : Bool → Prop) : Prop := match a with
  | .int x => isI b fun y => P (x == y)
  | .bool x => isB b fun y => P (x == y)
  | .str x => isSt b fun y => P (x == y)
  | .bytes x => isY b fun y => P (x == y)
  | .tup l => isT b fun r => eqL l r P
  | .obj i => isO b fun j => atL hp[i]? fun l => atL hp[j]? fun r => eqL l r P
  | .none => False

set_option backward.eqns.nonrecursive false in
noncomputable def intsOf : List AV → Option (List Int)
  | [] => some []
  | .int i :: r => (intsOf r).map (i :: ·)
  | _ :: _ => none
set_option backward.eqns.nonrecursive false in
noncomputable def strsOf : List AV → Option (List Str)
  | [] => some []
  | .str i :: r => (strsOf r).map (i :: ·)
  | _ :: _ => none
set_option backward.eqns.nonrecursive false in
noncomputable def bytesOf : List AV → Option (List (List UInt8))
  | [] => some []
  | .bytes i :: r => (bytesOf r).map (i :: ·)
  | _ :: _ => none

set_option backward.eqns.nonrecursive false in
noncomputable def inTup (a : AV) (l : List AV) : Option Bool := match a with
  | .int x => (intsOf l).map (·.any (· == x))
  | .str x => (strsOf l).map (·.any (· == x))
  | .bytes x => (bytesOf l).map (·.any (· == x))
  | _ => none

noncomputable def byteIn (i : Int) (b : List UInt8) : Bool := b.any fun c => decide ((c.toNat : Int) = i)

set_option backward.eqns.nonrecursive false in
noncomputable def inQ (a b : AV) (hp : Hp) (P : Bool → Prop) : Prop := match b with
  | .bytes y => isI a fun i => 0 ≤ i ∧ i < 256 ∧ P (byteIn i y)
  | .tup l => onO (inTup a l) P
  | .obj j => isSt a fun k => atD hp[j]? fun d _ => P ((d.lookup k).isSome)
  | _ => False

set_option backward.eqns.nonrecursive false in
noncomputable def isNone : AV → Bool
  | .none => true
  | _ => false

set_option backward.eqns.nonrecursive false in
noncomputable def cmpQ (o : CmpOp) (a b : AV) (hp : Hp) (P : Bool → Prop) : Prop := match o with
  | .Eq => eqQ a b hp P
  | .NotEq => eqQ a b hp fun c => P (!c)
  | .Lt => isI a fun x => isI b fun y => P (decide (x < y))
  | .LtE => isI a fun x => isI b fun y => P (decide (x ≤ y))
  | .Gt => isI a fun x => isI b fun y => P (decide (y < x))
  | .GtE => isI a fun x => isI b fun y => P (decide (y ≤ x))
  | .Is => isN b (P (isNone a))
  | .IsNot => isN b (P (!isNone a))
  | .In => inQ a b hp P
  | .NotIn => inQ a b hp fun c => P (!c)

set_option backward.eqns.nonrecursive false in
noncomputable def onS {α : Type} (o : Option α) (A : Prop) (P : α → Prop) : Prop := match o with
  | some c => A ∧ P c
  | none => False
theorem onS_ex {α : Type} {o : Option α} {A : Prop} {P : α → Prop} (h : onS o A P) : A ∧ ∃ c, o = some c ∧ P c := by
  cases o with
  | some c => exact ⟨h.1, c, rfl, h.2⟩
  | none => exact h.elim
theorem onS_mk {α : Type} {o : Option α} {A : Prop} {P : α → Prop} {c : α} (e : o = some c) (a : A) (p : P c) : onS o A P := by
  subst e; exact ⟨a, p⟩
set_option backward.eqns.nonrecursive false in
noncomputable def subQ (a i : AV) (hp : Hp) (P : AV → Prop) : Prop := match a with
  | .bytes b => isI i fun k => onS b[k.toNat]? (0 ≤ k) fun c => P (.int c.toNat)
  | .tup l => isI i fun k => onS l[k.toNat]? (0 ≤ k) P
  | .obj j => (match i with
      | .int k => atL hp[j]? fun l => onS l[k.toNat]? (0 ≤ k) P
      | .str k => atD hp[j]? fun d _ => onS (d.lookup k) True P
      | _ => False)
  | _ => False

noncomputable def cutL {α : Type} (l : List α) (lo hi : Option Int) : List α := kms_pick' l lo hi
where kms_pick' (l : List α) (lo hi : Option Int) : List α := (l.drop (kms_lo lo l.length)).take (kms_hi hi l.length - kms_lo lo l.length)

set_option backward.eqns.nonrecursive false in
noncomputable def slcQ (a : AV) (lo hi : Option Int) (st : St) (Q : QV) : Prop := match a with
  | .bytes b => Q (.bytes (cutL b lo hi)) st
  | .obj j => atL st.hp[j]? fun l => Q (.obj st.hp.length) ⟨st.loc, st.hp ++ [.list (cutL l lo hi)]⟩
  | _ => False

noncomputable def attQ (a : AV) (n : Nat) (hp : Hp) (P : AV → Prop) : Prop := isO a fun j => atI hp[j]? fun _ l => ∃ v, l.lookup n = some v ∧ P v

noncomputable def new (o : AO) (st : St) (Q : QV) : Prop := Q (.obj st.hp.length) ⟨st.loc, st.hp ++ [o]⟩

noncomputable def signOf (i : Int) : Str := ⟨#[i.toNat]⟩

set_option backward.eqns.nonrecursive false in
noncomputable def joiQ (a e : AV) (hp : Hp) (P : AV → Prop) : Prop := match a with
  | .str s => isO e fun j => s.length ≤ 16 ∧ atL hp[j]? fun l => ∃ ss, strsOf l = some ss ∧ (ss.map (·.length)).sum + ss.length ≤ 1048576 ∧ (Txt.join s ss).length ≤ 16777216 ∧ P (.str (Txt.join s ss))
  | .bytes s => isO e fun j => s = [] ∧ atL hp[j]? fun l => ∃ ss, bytesOf l = some ss ∧ ss.flatten.length ≤ 16777216 ∧ P (.bytes ss.flatten)
  | _ => False

noncomputable def strLe (a b : Str) : Bool := decide (a.cps.toList ≤ b.cps.toList)
noncomputable def sortStrs (l : List Str) : List Str := l.mergeSort strLe

set_option backward.eqns.nonrecursive false in
noncomputable def blt1 (hd : Bool) (x : Bl) (v : AV) (st : St) (Q : QV) : Prop := match x with
  | .len => (match v with
      | .bytes b => Q (.int b.length) st
      | .obj j => atL st.hp[j]? fun l => Q (.int l.length) st
      | _ => False)
  | .chr => isI v fun i => 0 ≤ i ∧ i < 1114112 ∧ Q (.str (signOf i)) st
  | .bytes => isO v fun j => atL st.hp[j]? fun l => hd = false ∧ ∃ ns, intsOf l = some ns ∧ (∀ n ∈ ns, 0 ≤ n ∧ n < 256) ∧ Q (.bytes (ns.map fun n => n.toNat.toUInt8)) st
  | .int => isI v fun i => Q (.int i) st
  | .abs => isI v fun i => Q (.int (if i < 0 then -i else i)) st
  | .sorted => isO v fun j => atD st.hp[j]? fun d _ => d.length < 60 ∧ new (.list ((sortStrs (d.map (·.1))).map .str)) st Q
  | .tuple => isO v fun j => atL st.hp[j]? fun l => Q (.tup l) st
set_option backward.eqns.nonrecursive false in
noncomputable def bltQ (hd : Bool) (x : Bl) (vs : List AV) (st : St) (Q : QV) : Prop := match vs with
  | [] => False
  | v :: r => (match r with
      | [] => blt1 hd x v st Q
      | _ :: _ => False)

set_option backward.eqns.nonrecursive false in
noncomputable def iterQ (hd : Bool) (v : AV) (hp : Hp) (P : List AV → (Hp → Prop) → Prop) : Prop := match v with
  | .bytes b => hd = false ∧ P (b.map fun c => .int c.toNat) (fun _ => True)
  | .obj j => onO hp[j]? fun o => (match o with
      | .list l => P l (fun h => h[j]? = some (.list l))
      | .dict d n => hd = false ∧ P (d.map fun e => .str e.1) (fun h => h[j]? = some (.dict d n))
      | .inst _ _ => False)
  | _ => False

set_option backward.eqns.nonrecursive false in
noncomputable def forQ (body : AV → St → (St → Prop) → Prop) (chk : Hp → Prop) (N : St → Prop) : List AV → St → Prop
  | [], st => N st
  | v :: r, st => body v st fun st' => chk st'.hp ∧ forQ body chk N r st'

set_option backward.eqns.nonrecursive false in
noncomputable def comQ (cond : AV → St → (Bool → St → Prop) → Prop) (elt : AV → St → QV → Prop) (chk : Hp → Prop) (K : List AV → St → Prop) : List AV → List AV → St → Prop
  | [], acc, st => K acc st
  | v :: r, acc, st => cond v st fun b st₁ => ifB b
      (elt v st₁ fun y st₂ => chk st₂.hp ∧ comQ cond elt chk K r (acc ++ [y]) st₂)
      (chk st₁.hp ∧ comQ cond elt chk K r acc st₁)

theorem comQ_cons {cond : AV → St → (Bool → St → Prop) → Prop} {elt : AV → St → QV → Prop} {chk : Hp → Prop} {K : List AV → St → Prop} {v : AV} {r acc : List AV} {st : St} : comQ cond elt chk K (v :: r) acc st = cond v st fun b st₁ => ifB b (elt v st₁ fun y st₂ => chk st₂.hp ∧ comQ cond elt chk K r (acc ++ [y]) st₂) (chk st₁.hp ∧ comQ cond elt chk K r acc st₁) := rfl
theorem comQ_nil {cond : AV → St → (Bool → St → Prop) → Prop} {elt : AV → St → QV → Prop} {chk : Hp → Prop} {K : List AV → St → Prop} {acc : List AV} {st : St} : comQ cond elt chk K [] acc st = K acc st := rfl
theorem forQ_nil {body : AV → St → (St → Prop) → Prop} {chk : Hp → Prop} {N : St → Prop} {st : St} : forQ body chk N [] st = N st := rfl
theorem forQ_cons {body : AV → St → (St → Prop) → Prop} {chk : Hp → Prop} {N : St → Prop} {v : AV} {r : List AV} {st : St} : forQ body chk N (v :: r) st = body v st fun st' => chk st'.hp ∧ forQ body chk N r st' := rfl
set_option backward.eqns.nonrecursive false in
noncomputable def rangeL (lo : Int) : Nat → List AV
  | 0 => []
  | n + 1 => .int lo :: rangeL (lo + 1) n

set_option backward.eqns.nonrecursive false in
noncomputable def rangeQ (vs : List AV) (P : List AV → Prop) : Prop := match vs with
  | [] => False
  | v :: r => isI v fun a => (match r with
      | [] => -1000 ≤ a ∧ a ≤ 1000 ∧ P (rangeL 0 a.toNat)
      | w :: r => isI w fun b => (match r with
          | [] => -1000 ≤ a ∧ a ≤ 1000 ∧ -1000 ≤ b ∧ b ≤ 1000 ∧ P (rangeL a (b - a).toNat)
          | _ :: _ => False))

noncomputable def gcon : List (Str × AV) := [("WHITE", .tup [.int 9, .int 10, .int 13, .int 32]), ("SEMICOLON", .int 59), ("EQUALS", .int 61), ("QUOTE", .int 34), ("BRACKET", .int 40),
  ("BARRED", .bytes [40, 41, 60, 62, 64, 44, 59, 58, 92, 34, 47, 91, 93, 63, 61]), ("ASCII", .str "us-ascii"), ("LATIN", .str "iso-8859-1"), ("UTF8", .str "utf-8"),
  ("CHARSETS", .tup [.str "us-ascii", .str "iso-8859-1", .str "utf-8"]), ("UNKNOWN_SIGN", .str (Str.mk #[65533])), ("MOST_DEPTH", .int 20), ("NEVER_ESCAPED", .tup [.int 0, .int 10, .int 13])]

noncomputable def methT : List (Nat × Nat × Nat) := [(155, 10, 95), (155, 11, 103), (155, 12, 110), (155, 13, 117), (155, 14, 124), (313, 15, 289), (313, 16, 296), (313, 17, 303), (313, 18, 310)]
noncomputable def meths (c n : Nat) : Option Nat := (methT.find? fun q => q.1 == c && q.2.1 == n).map (·.2.2)
theorem meths_in {c n f : Nat} (h : meths c n = some f) : (c, n, f) ∈ methT := by
  obtain ⟨q, hq, rfl⟩ := Option.map_eq_some_iff.mp h
  have a := List.find?_some hq
  have b := List.mem_of_find?_eq_some hq
  obtain ⟨x, y, z⟩ := q
  simp only [Bool.and_eq_true, beq_iff_eq] at a
  obtain ⟨rfl, rfl⟩ := a
  exact b

noncomputable def metQ (Φ : Fn) (hd : Bool) (a : AV) (n : Nat) (hp : Hp) (P : Nat → Prop) : Prop := isO a fun j => atI hp[j]? fun c l => l.lookup n = none ∧ onO (meths c n) P

noncomputable def appQ (a e : AV) (st : St) (Q : QV) : Prop := isO a fun j => atL st.hp[j]? fun l => l.length < 100000 ∧ Q .none (st.put j (.list (l ++ [e])))

set_option backward.eqns.nonrecursive false in
noncomputable def dput (k : Str) (v : AV) : List (Str × AV) → List (Str × AV)
  | [] => [(k, v)]
  | (x, u) :: r => if x = k then (x, v) :: r else (x, u) :: dput k v r
set_option backward.eqns.nonrecursive false in
noncomputable def aput (k : Nat) (v : AV) : List (Nat × AV) → List (Nat × AV)
  | [] => [(k, v)]
  | (x, u) :: r => if x = k then (x, v) :: r else (x, u) :: aput k v r

noncomputable def setAttQ (o : AV) (n : Nat) (v : AV) (st : St) (N : St → Prop) : Prop := isO o fun j => atI st.hp[j]? fun c l => l.length < 100 ∧ N (st.put j (.inst c (aput n v l)))
set_option backward.eqns.nonrecursive false in
noncomputable def setItmQ (o i v : AV) (st : St) (N : St → Prop) : Prop := isO o fun j => (match i with
  | .int k => atL st.hp[j]? fun l => 0 ≤ k ∧ k < l.length ∧ N (st.put j (.list (l.set k.toNat v)))
  | .str k => atD st.hp[j]? fun d _ => d.length < 100000 ∧ ∀ n, N (st.put j (.dict (dput k v d) n))
  | _ => False)

set_option backward.eqns.nonrecursive false in
noncomputable def unp2 (v : AV) (P : AV → AV → Prop) : Prop := isT v fun l => (match l with
  | [] => False
  | a :: r => (match r with
      | [] => False
      | b :: r => (match r with
          | [] => P a b
          | _ :: _ => False)))
set_option backward.eqns.nonrecursive false in
noncomputable def unp3 (v : AV) (P : AV → AV → AV → Prop) : Prop := isT v fun l => (match l with
  | [] => False
  | a :: r => (match r with
      | [] => False
      | b :: r => (match r with
          | [] => False
          | c :: r => (match r with
              | [] => P a b c
              | _ :: _ => False))))
noncomputable def isLst (v : AV) (hp : Hp) (P : Prop) : Prop := isO v fun j => atL hp[j]? fun _ => P
set_option backward.eqns.nonrecursive false in
noncomputable def isSB (v : AV) (P : Prop) : Prop := match v with
  | .str _ => P
  | .bytes _ => P
  | _ => False

set_option backward.eqns.nonrecursive false in
mutual
noncomputable def wp (Φ : Fn) (hd m : Bool) : E → St → QV → QX → Prop
  | .raw _, _, _, _ => False
  | .con c _ _, st, Q, _ => (match constV c with | some v => finQ m Q v st | none => False)
  | .loc _ i _, st, Q, _ => (match st.loc[i]? with | some (some v) => finQ m Q v st | _ => False)
  | .glo _ k _, st, Q, _ => (match gcon[k]? with | some q => finQ m Q q.2 st | none => False)
  | .bin a o b _, st, Q, X => wp Φ hd false a st (fun va st₁ => wp Φ hd false b st₁ (fun vb st₂ => binQ o va vb fun v => finQ m Q v st₂) X) X
  | .neg a _, st, Q, X => wp Φ hd false a st (fun v st₁ => isI v fun i => finQ m Q (.int (-i)) st₁) X
  | .nt a _, st, Q, X => (match m with
      | true => wp Φ hd true a st (fun v st₁ => isB v fun b => Q (.bool (!b)) st₁) X
      | false => wp Φ hd false a st (fun v st₁ => truthQ v st₁.hp fun b => Q (.bool (!b)) st₁) X)
  | .ife t a b _, st, Q, X => wp Φ hd true t st (fun v st₁ => isB v fun c => ifB c (wp Φ hd m a st₁ Q X) (wp Φ hd m b st₁ Q X)) X
  | .and a b _, st, Q, X => (match m with
      | true => wp Φ hd true a st (fun v st₁ => isB v fun c => ifB c (wp Φ hd true b st₁ Q X) (Q (.bool false) st₁)) X
      | false => wp Φ hd false a st (fun v st₁ => truthQ v st₁.hp fun c => ifB c (wp Φ hd false b st₁ Q X) (Q v st₁)) X)
  | .or a b _, st, Q, X => (match m with
      | true => wp Φ hd true a st (fun v st₁ => isB v fun c => ifB c (Q (.bool true) st₁) (wp Φ hd true b st₁ Q X)) X
      | false => wp Φ hd false a st (fun v st₁ => truthQ v st₁.hp fun c => ifB c (Q v st₁) (wp Φ hd false b st₁ Q X)) X)
  | .or3 a b c _, st, Q, X => m = true ∧ wp Φ hd true a st (fun v st₁ => isB v fun t => ifB t (Q (.bool true) st₁)
      (wp Φ hd true b st₁ (fun v st₂ => isB v fun t => ifB t (Q (.bool true) st₂) (wp Φ hd true c st₂ Q X)) X)) X
  | .cmp a o b _, st, Q, X => wp Φ hd false a st (fun va st₁ => wp Φ hd false b st₁ (fun vb st₂ => cmpQ o va vb st₂.hp fun c => Q (.bool c) st₂) X) X
  | .cmp2 a o₁ b o₂ c _, st, Q, X => wp Φ hd false a st (fun va st₁ => wp Φ hd false b st₁ (fun vb st₂ => cmpQ o₁ va vb st₂.hp fun t =>
      ifB t (wp Φ hd false c st₂ (fun vc st₃ => cmpQ o₂ vb vc st₃.hp fun t => Q (.bool t) st₃) X) (Q (.bool false) st₂)) X) X
  | .tup es _ _, st, Q, X => m = false ∧ wpEs Φ hd es st (fun vs st₁ => Q (.tup vs) st₁) X
  | .lst es _, st, Q, X => wpEs Φ hd es st (fun vs st₁ => new (.list vs) st₁ (finQ m Q)) X
  | .dic0 _, st, Q, _ => m = false ∧ ∀ n, new (.dict [] n) st Q
  | .dic1 k v _ _ _, st, Q, _ => m = false ∧ k.length ≤ 1000 ∧ v.length ≤ 1000 ∧ ∀ n, new (.dict [(k, .str v)] n) st Q
  | .sub a i _, st, Q, X => wp Φ hd false a st (fun va st₁ => wp Φ hd false i st₁ (fun vi st₂ => subQ va vi st₂.hp fun v => finQ m Q v st₂) X) X
  | .slLU a l u _ _, st, Q, X => wp Φ hd false a st (fun va st₁ => wp Φ hd false l st₁ (fun vl st₂ => wp Φ hd false u st₂ (fun vu st₃ => isI vl fun i => isI vu fun j => slcQ va (some i) (some j) st₃ (finQ m Q)) X) X) X
  | .slL a l _ _, st, Q, X => wp Φ hd false a st (fun va st₁ => wp Φ hd false l st₁ (fun vl st₂ => isI vl fun i => slcQ va (some i) none st₂ (finQ m Q)) X) X
  | .slU a u _ _, st, Q, X => wp Φ hd false a st (fun va st₁ => wp Φ hd false u st₁ (fun vu st₂ => isI vu fun j => slcQ va none (some j) st₂ (finQ m Q)) X) X
  | .att a n _, st, Q, X => wp Φ hd false a st (fun va st₁ => attQ va n st₁.hp fun v => finQ m Q v st₁) X
  | .call _ f _ es _, st, Q, X => wpEs Φ hd es st (fun vs st₁ => Φ hd f vs st₁.hp (fun v h => finQ m Q v ⟨st₁.loc, h⟩) (fun c h => X c ⟨st₁.loc, h⟩)) X
  | .met a n es _ _, st, Q, X => wp Φ hd false a st (fun va st₁ => metQ Φ hd va n st₁.hp fun f => wpEs Φ hd es st₁ (fun vs st₂ => Φ hd f (va :: vs) st₂.hp (fun v h => finQ m Q v ⟨st₂.loc, h⟩) (fun c h => X c ⟨st₂.loc, h⟩)) X) X
  | .blt x _ es _, st, Q, X => wpEs Φ hd es st (fun vs st₁ => bltQ hd x vs st₁ (finQ m Q)) X
  | .app a e _ _, st, Q, X => m = false ∧ wp Φ hd false a st (fun va st₁ => isLst va st₁.hp <| wp Φ hd false e st₁ (fun ve st₂ => appQ va ve st₂ Q) X) X
  | .joi a e _ _, st, Q, X => m = false ∧ wp Φ hd false a st (fun va st₁ => isSB va <| wp Φ hd false e st₁ (fun ve st₂ => joiQ va ve st₂.hp fun v => Q v st₂) X) X
  | .fnd a e _ _, st, Q, X => m = false ∧ wp Φ hd false a st (fun va st₁ => isSt va fun s => wp Φ hd false e st₁ (fun ve st₂ => isSt ve fun t => Q (.int (Txt.find s t)) st₂) X) X
  | .dget k v _ _ _ _ i _ j _ _ _, st, Q, _ => m = false ∧ (match st.loc[i]? with | some (some (.int n)) => ifB (decide (n = k)) (Q (.int v) st) (Q (.int j) st) | _ => False)
  | .com elt _ _ it _ _, st, Q, X => wp Φ hd false it st (fun vi st₁ => iterQ hd vi st₁.hp fun items chk =>
      comQ (fun _ st₂ K => K true st₂) (fun v st₂ K => wp Φ hd false elt ⟨some v :: st₁.loc, st₂.hp⟩ (fun y st₃ => K y st₃) (fun _ _ => False)) chk
        (fun acc st₂ => new (.list acc) ⟨st₁.loc, st₂.hp⟩ (finQ m Q)) items [] st₁) X
  | .comc elt _ _ it c _ _, st, Q, X => wp Φ hd false it st (fun vi st₁ => iterQ hd vi st₁.hp fun items chk =>
      comQ (fun v st₂ K => wp Φ hd true c ⟨some v :: st₁.loc, st₂.hp⟩ (fun y st₃ => isB y fun b => K b st₃) (fun _ _ => False))
        (fun v st₂ K => wp Φ hd false elt ⟨some v :: st₁.loc, st₂.hp⟩ (fun y st₃ => K y st₃) (fun _ _ => False)) chk
        (fun acc st₂ => new (.list acc) ⟨st₁.loc, st₂.hp⟩ (finQ m Q)) items [] st₁) X
noncomputable def wpEs (Φ : Fn) (hd : Bool) : Es → St → (List AV → St → Prop) → QX → Prop
  | .nil, st, Q, _ => Q [] st
  | .cons e r, st, Q, X => wp Φ hd false e st (fun v st₁ => wpEs Φ hd r st₁ (fun vs st₂ => Q (v :: vs) st₂) X) X
end

set_option backward.eqns.nonrecursive false in
mutual
noncomputable def wpS (Φ : Fn) (hd : Bool) : S → St → (St → Prop) → (AV → St → Prop) → (St → Prop) → QX → Prop
  | .raw _, _, _, _, _, _ => False
  | .asg _ i _ e _, st, N, _, _, X => wp Φ hd false e st (fun v st₁ => N (st₁.set i v)) X
  | .asgC _ i _ e _, st, N, _, _, X => wp Φ hd false e st (fun v st₁ => N (st₁.set i v)) X
  | .asg2 _ i _ _ j _ _ _ e _, st, N, _, _, X => wp Φ hd false e st (fun v st₁ => unp2 v fun a b => N ((st₁.set i a).set j b)) X
  | .asg3 _ i _ _ j _ _ l _ _ _ e _, st, N, _, _, X => hd = false ∧ wp Φ hd false e st (fun v st₁ => unp3 v fun a b c => N (((st₁.set i a).set j b).set l c)) X
  | .asgA _ i _ o n _ _ _ e _, st, N, _, _, X => hd = false ∧ wp Φ hd false e st (fun v st₁ => unp2 v fun a b => wp Φ hd false o (st₁.set i a) (fun ov st₂ => setAttQ ov n b st₂ N) X) X
  | .ast o n _ e _, st, N, _, _, X => wp Φ hd false e st (fun v st₁ => wp Φ hd false o st₁ (fun ov st₂ => setAttQ ov n v st₂ N) X) X
  | .sst o i _ e _, st, N, _, _, X => wp Φ hd false e st (fun v st₁ => wp Φ hd false o st₁ (fun ov st₂ => wp Φ hd false i st₂ (fun iv st₃ => setItmQ ov iv v st₃ N) X) X) X
  | .exp e _, st, N, _, _, X => wp Φ hd false e st (fun _ st₁ => N st₁) X
  | .ite t a b _, st, N, R, C, X => wp Φ hd true t st (fun v st₁ => isB v fun c => ifB c (wpSs Φ hd a st₁ N R C X) (wpSs Φ hd b st₁ N R C X)) X
  | .whl t b _, st, N, R, _, X => ∀ P : St → Prop, (∀ st', wp Φ hd true t st' (fun v st₁ => isB v fun c => ifB c (wpSs Φ hd b st₁ P R P X) (N st₁)) X → P st') → P st
  | .for1 _ i _ it b _, st, N, R, _, X => hd = false ∧ wp Φ hd false it st (fun vi st₁ => iterQ hd vi st₁.hp fun items chk => forQ (fun v st₂ K => wpSs Φ hd b (st₂.set i v) K R K X) chk N items st₁) X
  | .forR _ i _ _ es _ b _, st, N, R, _, X => hd = false ∧ wpEs Φ hd es st (fun vs st₁ => rangeQ vs fun items => forQ (fun v st₂ K => wpSs Φ hd b (st₂.set i v) K R K X) (fun _ => True) N items st₁) X
  | .for2 _ i _ _ j _ _ _ it b _, st, N, R, _, X => hd = false ∧ wp Φ hd false it st (fun vi st₁ => iterQ hd vi st₁.hp fun items chk => forQ (fun v st₂ K => unp2 v fun x y => wpSs Φ hd b ((st₂.set i x).set j y) K R K X) chk N items st₁) X
  | .ret e _, st, _, R, _, X => wp Φ hd false e st (fun v st₁ => R v st₁) X
  | .rse _ c _ es _ _, st, _, _, _, X => hd = false ∧ wpEs Φ hd es st (fun vs st₁ => 1 ≤ vs.length ∧ vs.length ≤ 2 ∧ X c st₁) X
  | .tr b _ c _ h _ _, st, N, R, C, _ => hd = false ∧ wpSs Φ hd b st N R C (fun c' st₁ => c' = c ∧ wpSs Φ true h st₁ N R C (fun _ _ => False))
  | .cont _, st, _, _, C, _ => C st
  | .ret0 _, st, _, R, _, _ => R .none st
noncomputable def wpSs (Φ : Fn) (hd : Bool) : Ss → St → (St → Prop) → (AV → St → Prop) → (St → Prop) → QX → Prop
  | .nil, st, N, _, _, _ => N st
  | .cons s r, st, N, R, C, X => wpS Φ hd s st (fun st₁ => wpSs Φ hd r st₁ N R C X) R C X
end

inductive FK where
  | fn (n : Nat) (d : List AV) (k : Nat) (b : Ss)
  | cls (i : Nat)

noncomputable def bodyQ (Φ : Fn) (hd : Bool) (k : Nat) (b : Ss) (vs : List AV) (hp : Hp) (Q : AV → Hp → Prop) (X : Nat → Hp → Prop) : Prop :=
  wpSs Φ hd b ⟨vs.map some ++ List.replicate (k - vs.length) none, hp⟩ (fun st => Q .none st.hp) (fun v st => Q v st.hp) (fun _ => False) (fun c st => X c st.hp)

set_option backward.eqns.nonrecursive false in
noncomputable def step (tab : Nat → Option FK) (Φ : Fn) : Fn := fun hd f vs hp Q X => match tab f with
  | some (.fn n d k b) => vs.length ≤ n ∧ n ≤ vs.length + d.length ∧ bodyQ Φ hd k b (vs ++ d.drop (vs.length + d.length - n)) hp Q X
  | some (.cls i) => Φ hd i (.obj hp.length :: vs) (hp ++ [.inst f []]) (fun _ h => Q (.obj hp.length) h) X
  | none => False
theorem wq0 {Φ : Fn} {hd m : Bool} {u1} {u2} {u3} {u4} : wp Φ hd m (.raw u1) (u2) (u3) (u4) = (False) := rfl
theorem wq1 {Φ : Fn} {hd m : Bool} {c} {u1} {u2} {st} {Q} {u3} : wp Φ hd m (.con c u1 u2) (st) (Q) (u3) = ((match constV c with | some v => finQ m Q v st | none => False)) := rfl
theorem wq2 {Φ : Fn} {hd m : Bool} {u1} {i} {u2} {st} {Q} {u3} : wp Φ hd m (.loc u1 i u2) (st) (Q) (u3) = ((match st.loc[i]? with | some (some v) => finQ m Q v st | _ => False)) := rfl
theorem wq3 {Φ : Fn} {hd m : Bool} {u1} {k} {u2} {st} {Q} {u3} : wp Φ hd m (.glo u1 k u2) (st) (Q) (u3) = ((match gcon[k]? with | some q => finQ m Q q.2 st | none => False)) := rfl
theorem wq4 {Φ : Fn} {hd m : Bool} {a} {o} {b} {u1} {st} {Q} {X} : wp Φ hd m (.bin a o b u1) (st) (Q) (X) = (wp Φ hd false a st (fun va st₁ => wp Φ hd false b st₁ (fun vb st₂ => binQ o va vb fun v => finQ m Q v st₂) X) X) := rfl
theorem wq5 {Φ : Fn} {hd m : Bool} {a} {u1} {st} {Q} {X} : wp Φ hd m (.neg a u1) (st) (Q) (X) = (wp Φ hd false a st (fun v st₁ => isI v fun i => finQ m Q (.int (-i)) st₁) X) := rfl
theorem wq6 {Φ : Fn} {hd m : Bool} {a} {u1} {st} {Q} {X} : wp Φ hd m (.nt a u1) (st) (Q) (X) = ((match m with
      | true => wp Φ hd true a st (fun v st₁ => isB v fun b => Q (.bool (!b)) st₁) X
      | false => wp Φ hd false a st (fun v st₁ => truthQ v st₁.hp fun b => Q (.bool (!b)) st₁) X)) := rfl
theorem wq7 {Φ : Fn} {hd m : Bool} {t} {a} {b} {u1} {st} {Q} {X} : wp Φ hd m (.ife t a b u1) (st) (Q) (X) = (wp Φ hd true t st (fun v st₁ => isB v fun c => ifB c (wp Φ hd m a st₁ Q X) (wp Φ hd m b st₁ Q X)) X) := rfl
theorem wq8 {Φ : Fn} {hd m : Bool} {a} {b} {u1} {st} {Q} {X} : wp Φ hd m (.and a b u1) (st) (Q) (X) = ((match m with
      | true => wp Φ hd true a st (fun v st₁ => isB v fun c => ifB c (wp Φ hd true b st₁ Q X) (Q (.bool false) st₁)) X
      | false => wp Φ hd false a st (fun v st₁ => truthQ v st₁.hp fun c => ifB c (wp Φ hd false b st₁ Q X) (Q v st₁)) X)) := rfl
theorem wq9 {Φ : Fn} {hd m : Bool} {a} {b} {u1} {st} {Q} {X} : wp Φ hd m (.or a b u1) (st) (Q) (X) = ((match m with
      | true => wp Φ hd true a st (fun v st₁ => isB v fun c => ifB c (Q (.bool true) st₁) (wp Φ hd true b st₁ Q X)) X
      | false => wp Φ hd false a st (fun v st₁ => truthQ v st₁.hp fun c => ifB c (Q v st₁) (wp Φ hd false b st₁ Q X)) X)) := rfl
theorem wq10 {Φ : Fn} {hd m : Bool} {a} {b} {c} {u1} {st} {Q} {X} : wp Φ hd m (.or3 a b c u1) (st) (Q) (X) = (m = true ∧ wp Φ hd true a st (fun v st₁ => isB v fun t => ifB t (Q (.bool true) st₁)
      (wp Φ hd true b st₁ (fun v st₂ => isB v fun t => ifB t (Q (.bool true) st₂) (wp Φ hd true c st₂ Q X)) X)) X) := rfl
theorem wq11 {Φ : Fn} {hd m : Bool} {a} {o} {b} {u1} {st} {Q} {X} : wp Φ hd m (.cmp a o b u1) (st) (Q) (X) = (wp Φ hd false a st (fun va st₁ => wp Φ hd false b st₁ (fun vb st₂ => cmpQ o va vb st₂.hp fun c => Q (.bool c) st₂) X) X) := rfl
theorem wq12 {Φ : Fn} {hd m : Bool} {a} {o₁} {b} {o₂} {c} {u1} {st} {Q} {X} : wp Φ hd m (.cmp2 a o₁ b o₂ c u1) (st) (Q) (X) = (wp Φ hd false a st (fun va st₁ => wp Φ hd false b st₁ (fun vb st₂ => cmpQ o₁ va vb st₂.hp fun t =>
      ifB t (wp Φ hd false c st₂ (fun vc st₃ => cmpQ o₂ vb vc st₃.hp fun t => Q (.bool t) st₃) X) (Q (.bool false) st₂)) X) X) := rfl
theorem wq13 {Φ : Fn} {hd m : Bool} {es} {u1} {u2} {st} {Q} {X} : wp Φ hd m (.tup es u1 u2) (st) (Q) (X) = (m = false ∧ wpEs Φ hd es st (fun vs st₁ => Q (.tup vs) st₁) X) := rfl
theorem wq14 {Φ : Fn} {hd m : Bool} {es} {u1} {st} {Q} {X} : wp Φ hd m (.lst es u1) (st) (Q) (X) = (wpEs Φ hd es st (fun vs st₁ => new (.list vs) st₁ (finQ m Q)) X) := rfl
theorem wq15 {Φ : Fn} {hd m : Bool} {u1} {st} {Q} {u2} : wp Φ hd m (.dic0 u1) (st) (Q) (u2) = (m = false ∧ ∀ n, new (.dict [] n) st Q) := rfl
theorem wq16 {Φ : Fn} {hd m : Bool} {k} {v} {u1} {u2} {u3} {st} {Q} {u4} : wp Φ hd m (.dic1 k v u1 u2 u3) (st) (Q) (u4) = (m = false ∧ k.length ≤ 1000 ∧ v.length ≤ 1000 ∧ ∀ n, new (.dict [(k, .str v)] n) st Q) := rfl
theorem wq17 {Φ : Fn} {hd m : Bool} {a} {i} {u1} {st} {Q} {X} : wp Φ hd m (.sub a i u1) (st) (Q) (X) = (wp Φ hd false a st (fun va st₁ => wp Φ hd false i st₁ (fun vi st₂ => subQ va vi st₂.hp fun v => finQ m Q v st₂) X) X) := rfl
theorem wq18 {Φ : Fn} {hd m : Bool} {a} {l} {u} {u1} {u2} {st} {Q} {X} : wp Φ hd m (.slLU a l u u1 u2) (st) (Q) (X) = (wp Φ hd false a st (fun va st₁ => wp Φ hd false l st₁ (fun vl st₂ => wp Φ hd false u st₂ (fun vu st₃ => isI vl fun i => isI vu fun j => slcQ va (some i) (some j) st₃ (finQ m Q)) X) X) X) := rfl
theorem wq19 {Φ : Fn} {hd m : Bool} {a} {l} {u1} {u2} {st} {Q} {X} : wp Φ hd m (.slL a l u1 u2) (st) (Q) (X) = (wp Φ hd false a st (fun va st₁ => wp Φ hd false l st₁ (fun vl st₂ => isI vl fun i => slcQ va (some i) none st₂ (finQ m Q)) X) X) := rfl
theorem wq20 {Φ : Fn} {hd m : Bool} {a} {u} {u1} {u2} {st} {Q} {X} : wp Φ hd m (.slU a u u1 u2) (st) (Q) (X) = (wp Φ hd false a st (fun va st₁ => wp Φ hd false u st₁ (fun vu st₂ => isI vu fun j => slcQ va none (some j) st₂ (finQ m Q)) X) X) := rfl
theorem wq21 {Φ : Fn} {hd m : Bool} {a} {n} {u1} {st} {Q} {X} : wp Φ hd m (.att a n u1) (st) (Q) (X) = (wp Φ hd false a st (fun va st₁ => attQ va n st₁.hp fun v => finQ m Q v st₁) X) := rfl
theorem wq22 {Φ : Fn} {hd m : Bool} {u1} {f} {u2} {es} {u3} {st} {Q} {X} : wp Φ hd m (.call u1 f u2 es u3) (st) (Q) (X) = (wpEs Φ hd es st (fun vs st₁ => Φ hd f vs st₁.hp (fun v h => finQ m Q v ⟨st₁.loc, h⟩) (fun c h => X c ⟨st₁.loc, h⟩)) X) := rfl
theorem wq23 {Φ : Fn} {hd m : Bool} {a} {n} {es} {u1} {u2} {st} {Q} {X} : wp Φ hd m (.met a n es u1 u2) (st) (Q) (X) = (wp Φ hd false a st (fun va st₁ => metQ Φ hd va n st₁.hp fun f => wpEs Φ hd es st₁ (fun vs st₂ => Φ hd f (va :: vs) st₂.hp (fun v h => finQ m Q v ⟨st₂.loc, h⟩) (fun c h => X c ⟨st₂.loc, h⟩)) X) X) := rfl
theorem wq24 {Φ : Fn} {hd m : Bool} {x} {u1} {es} {u2} {st} {Q} {X} : wp Φ hd m (.blt x u1 es u2) (st) (Q) (X) = (wpEs Φ hd es st (fun vs st₁ => bltQ hd x vs st₁ (finQ m Q)) X) := rfl
theorem wq25 {Φ : Fn} {hd m : Bool} {a} {e} {u1} {u2} {st} {Q} {X} : wp Φ hd m (.app a e u1 u2) (st) (Q) (X) = (m = false ∧ wp Φ hd false a st (fun va st₁ => isLst va st₁.hp <| wp Φ hd false e st₁ (fun ve st₂ => appQ va ve st₂ Q) X) X) := rfl
theorem wq26 {Φ : Fn} {hd m : Bool} {a} {e} {u1} {u2} {st} {Q} {X} : wp Φ hd m (.joi a e u1 u2) (st) (Q) (X) = (m = false ∧ wp Φ hd false a st (fun va st₁ => isSB va <| wp Φ hd false e st₁ (fun ve st₂ => joiQ va ve st₂.hp fun v => Q v st₂) X) X) := rfl
theorem wq27 {Φ : Fn} {hd m : Bool} {a} {e} {u1} {u2} {st} {Q} {X} : wp Φ hd m (.fnd a e u1 u2) (st) (Q) (X) = (m = false ∧ wp Φ hd false a st (fun va st₁ => isSt va fun s => wp Φ hd false e st₁ (fun ve st₂ => isSt ve fun t => Q (.int (Txt.find s t)) st₂) X) X) := rfl
theorem wq28 {Φ : Fn} {hd m : Bool} {k} {v} {u1} {u2} {u3} {u4} {i} {u5} {j} {u6} {u7} {u8} {st} {Q} {u9} : wp Φ hd m (.dget k v u1 u2 u3 u4 i u5 j u6 u7 u8) (st) (Q) (u9) = (m = false ∧ (match st.loc[i]? with | some (some (.int n)) => ifB (decide (n = k)) (Q (.int v) st) (Q (.int j) st) | _ => False)) := rfl
theorem wq29 {Φ : Fn} {hd m : Bool} {elt} {u1} {u2} {it} {u3} {u4} {st} {Q} {X} : wp Φ hd m (.com elt u1 u2 it u3 u4) (st) (Q) (X) = (wp Φ hd false it st (fun vi st₁ => iterQ hd vi st₁.hp fun items chk =>
      comQ (fun _ st₂ K => K true st₂) (fun v st₂ K => wp Φ hd false elt ⟨some v :: st₁.loc, st₂.hp⟩ (fun y st₃ => K y st₃) (fun _ _ => False)) chk
        (fun acc st₂ => new (.list acc) ⟨st₁.loc, st₂.hp⟩ (finQ m Q)) items [] st₁) X) := rfl
theorem wq30 {Φ : Fn} {hd m : Bool} {elt} {u1} {u2} {it} {c} {u3} {u4} {st} {Q} {X} : wp Φ hd m (.comc elt u1 u2 it c u3 u4) (st) (Q) (X) = (wp Φ hd false it st (fun vi st₁ => iterQ hd vi st₁.hp fun items chk =>
      comQ (fun v st₂ K => wp Φ hd true c ⟨some v :: st₁.loc, st₂.hp⟩ (fun y st₃ => isB y fun b => K b st₃) (fun _ _ => False))
        (fun v st₂ K => wp Φ hd false elt ⟨some v :: st₁.loc, st₂.hp⟩ (fun y st₃ => K y st₃) (fun _ _ => False)) chk
        (fun acc st₂ => new (.list acc) ⟨st₁.loc, st₂.hp⟩ (finQ m Q)) items [] st₁) X) := rfl
theorem wqs0 {Φ : Fn} {hd : Bool} {st} {Q} {u1} : wpEs Φ hd (.nil) (st) (Q) (u1) = (Q [] st) := rfl
theorem wqs1 {Φ : Fn} {hd : Bool} {e} {r} {st} {Q} {X} : wpEs Φ hd (.cons e r) (st) (Q) (X) = (wp Φ hd false e st (fun v st₁ => wpEs Φ hd r st₁ (fun vs st₂ => Q (v :: vs) st₂) X) X) := rfl
theorem wr0 {Φ : Fn} {hd : Bool} {u1} {u2} {u3} {u4} {u5} {u6} : wpS Φ hd (.raw u1) (u2) (u3) (u4) (u5) (u6) = (False) := rfl
theorem wr1 {Φ : Fn} {hd : Bool} {u1} {i} {u2} {e} {u3} {st} {N} {u4} {u5} {X} : wpS Φ hd (.asg u1 i u2 e u3) (st) (N) (u4) (u5) (X) = (wp Φ hd false e st (fun v st₁ => N (st₁.set i v)) X) := rfl
theorem wr2 {Φ : Fn} {hd : Bool} {u1} {i} {u2} {e} {u3} {st} {N} {u4} {u5} {X} : wpS Φ hd (.asgC u1 i u2 e u3) (st) (N) (u4) (u5) (X) = (wp Φ hd false e st (fun v st₁ => N (st₁.set i v)) X) := rfl
theorem wr3 {Φ : Fn} {hd : Bool} {u1} {i} {u2} {u3} {j} {u4} {u5} {u6} {e} {u7} {st} {N} {u8} {u9} {X} : wpS Φ hd (.asg2 u1 i u2 u3 j u4 u5 u6 e u7) (st) (N) (u8) (u9) (X) = (wp Φ hd false e st (fun v st₁ => unp2 v fun a b => N ((st₁.set i a).set j b)) X) := rfl
theorem wr4 {Φ : Fn} {hd : Bool} {u1} {i} {u2} {u3} {j} {u4} {u5} {l} {u6} {u7} {u8} {e} {u9} {st} {N} {u10} {u11} {X} : wpS Φ hd (.asg3 u1 i u2 u3 j u4 u5 l u6 u7 u8 e u9) (st) (N) (u10) (u11) (X) = (hd = false ∧ wp Φ hd false e st (fun v st₁ => unp3 v fun a b c => N (((st₁.set i a).set j b).set l c)) X) := rfl
theorem wr5 {Φ : Fn} {hd : Bool} {u1} {i} {u2} {o} {n} {u3} {u4} {u5} {e} {u6} {st} {N} {u7} {u8} {X} : wpS Φ hd (.asgA u1 i u2 o n u3 u4 u5 e u6) (st) (N) (u7) (u8) (X) = (hd = false ∧ wp Φ hd false e st (fun v st₁ => unp2 v fun a b => wp Φ hd false o (st₁.set i a) (fun ov st₂ => setAttQ ov n b st₂ N) X) X) := rfl
theorem wr6 {Φ : Fn} {hd : Bool} {o} {n} {u1} {e} {u2} {st} {N} {u3} {u4} {X} : wpS Φ hd (.ast o n u1 e u2) (st) (N) (u3) (u4) (X) = (wp Φ hd false e st (fun v st₁ => wp Φ hd false o st₁ (fun ov st₂ => setAttQ ov n v st₂ N) X) X) := rfl
theorem wr7 {Φ : Fn} {hd : Bool} {o} {i} {u1} {e} {u2} {st} {N} {u3} {u4} {X} : wpS Φ hd (.sst o i u1 e u2) (st) (N) (u3) (u4) (X) = (wp Φ hd false e st (fun v st₁ => wp Φ hd false o st₁ (fun ov st₂ => wp Φ hd false i st₂ (fun iv st₃ => setItmQ ov iv v st₃ N) X) X) X) := rfl
theorem wr8 {Φ : Fn} {hd : Bool} {e} {u1} {st} {N} {u2} {u3} {X} : wpS Φ hd (.exp e u1) (st) (N) (u2) (u3) (X) = (wp Φ hd false e st (fun _ st₁ => N st₁) X) := rfl
theorem wr9 {Φ : Fn} {hd : Bool} {t} {a} {b} {u1} {st} {N} {R} {C} {X} : wpS Φ hd (.ite t a b u1) (st) (N) (R) (C) (X) = (wp Φ hd true t st (fun v st₁ => isB v fun c => ifB c (wpSs Φ hd a st₁ N R C X) (wpSs Φ hd b st₁ N R C X)) X) := rfl
theorem wr10 {Φ : Fn} {hd : Bool} {t} {b} {u1} {st} {N} {R} {u2} {X} : wpS Φ hd (.whl t b u1) (st) (N) (R) (u2) (X) = (∀ P : St → Prop, (∀ st', wp Φ hd true t st' (fun v st₁ => isB v fun c => ifB c (wpSs Φ hd b st₁ P R P X) (N st₁)) X → P st') → P st) := rfl
theorem wr11 {Φ : Fn} {hd : Bool} {u1} {i} {u2} {it} {b} {u3} {st} {N} {R} {u4} {X} : wpS Φ hd (.for1 u1 i u2 it b u3) (st) (N) (R) (u4) (X) = (hd = false ∧ wp Φ hd false it st (fun vi st₁ => iterQ hd vi st₁.hp fun items chk => forQ (fun v st₂ K => wpSs Φ hd b (st₂.set i v) K R K X) chk N items st₁) X) := rfl
theorem wr12 {Φ : Fn} {hd : Bool} {u1} {i} {u2} {u3} {es} {u4} {b} {u5} {st} {N} {R} {u6} {X} : wpS Φ hd (.forR u1 i u2 u3 es u4 b u5) (st) (N) (R) (u6) (X) = (hd = false ∧ wpEs Φ hd es st (fun vs st₁ => rangeQ vs fun items => forQ (fun v st₂ K => wpSs Φ hd b (st₂.set i v) K R K X) (fun _ => True) N items st₁) X) := rfl
theorem wr13 {Φ : Fn} {hd : Bool} {u1} {i} {u2} {u3} {j} {u4} {u5} {u6} {it} {b} {u7} {st} {N} {R} {u8} {X} : wpS Φ hd (.for2 u1 i u2 u3 j u4 u5 u6 it b u7) (st) (N) (R) (u8) (X) = (hd = false ∧ wp Φ hd false it st (fun vi st₁ => iterQ hd vi st₁.hp fun items chk => forQ (fun v st₂ K => unp2 v fun x y => wpSs Φ hd b ((st₂.set i x).set j y) K R K X) chk N items st₁) X) := rfl
theorem wr14 {Φ : Fn} {hd : Bool} {e} {u1} {st} {u2} {R} {u3} {X} : wpS Φ hd (.ret e u1) (st) (u2) (R) (u3) (X) = (wp Φ hd false e st (fun v st₁ => R v st₁) X) := rfl
theorem wr15 {Φ : Fn} {hd : Bool} {u1} {c} {u2} {es} {u3} {u4} {st} {u5} {u6} {u7} {X} : wpS Φ hd (.rse u1 c u2 es u3 u4) (st) (u5) (u6) (u7) (X) = (hd = false ∧ wpEs Φ hd es st (fun vs st₁ => 1 ≤ vs.length ∧ vs.length ≤ 2 ∧ X c st₁) X) := rfl
theorem wr16 {Φ : Fn} {hd : Bool} {b} {u1} {c} {u2} {h} {u3} {u4} {st} {N} {R} {C} {u5} : wpS Φ hd (.tr b u1 c u2 h u3 u4) (st) (N) (R) (C) (u5) = (hd = false ∧ wpSs Φ hd b st N R C (fun c' st₁ => c' = c ∧ wpSs Φ true h st₁ N R C (fun _ _ => False))) := rfl
theorem wr17 {Φ : Fn} {hd : Bool} {u1} {st} {u2} {u3} {C} {u4} : wpS Φ hd (.cont u1) (st) (u2) (u3) (C) (u4) = (C st) := rfl
theorem wr18 {Φ : Fn} {hd : Bool} {u1} {st} {u2} {R} {u3} {u4} : wpS Φ hd (.ret0 u1) (st) (u2) (R) (u3) (u4) = (R .none st) := rfl
theorem wrs0 {Φ : Fn} {hd : Bool} {st} {N} {u1} {u2} {u3} : wpSs Φ hd (.nil) (st) (N) (u1) (u2) (u3) = (N st) := rfl
theorem wrs1 {Φ : Fn} {hd : Bool} {s} {r} {st} {N} {R} {C} {X} : wpSs Φ hd (.cons s r) (st) (N) (R) (C) (X) = (wpS Φ hd s st (fun st₁ => wpSs Φ hd r st₁ N R C X) R C X) := rfl
end Mine
end

noncomputable section
open PySem PySem.W PyProof.Rows PySem.Calls PySem.Spec
set_option maxRecDepth 100000
namespace Mine

structure Wd where
  ρ : List (List Addr)
  τ : List (Addr × List Value)

structure Wd.le (W W' : Wd) : Prop where
  ρ : ∃ l, W'.ρ = W.ρ ++ l
  τ : ∀ x ∈ W.τ, x ∈ W'.τ
theorem Wd.le.refl (W : Wd) : W.le W := ⟨⟨[], by simp⟩, fun _ h => h⟩
theorem Wd.le.trans {W₁ W₂ W₃ : Wd} (x : W₁.le W₂) (y : W₂.le W₃) : W₁.le W₃ := by
  obtain ⟨⟨l, e⟩, t⟩ := x
  obtain ⟨⟨l', e'⟩, t'⟩ := y
  exact ⟨⟨l ++ l', by rw [e', e, List.append_assoc]⟩, fun z h => t' z (t z h)⟩
theorem Wd.le.at {W W' : Wd} (x : W.le W') {i : Nat} {r : List Addr} (h : W.ρ[i]? = some r) : W'.ρ[i]? = some r := by
  obtain ⟨l, e⟩ := x.ρ
  rw [e, List.getElem?_append_left (List.getElem?_eq_some_iff.mp h).1]
  exact h

mutual
inductive VR (W : Wd) : AV → Value → Prop
  | none : VR W .none .none
  | bool (b : Bool) : VR W (.bool b) (.bool b)
  | int (i : Int) (t : Tok) : VR W (.int i) (.int i t)
  | str (s : Str) (t : Tok) (h : s.length ≤ 16777216) : VR W (.str s) (.str s t)
  | bytes (b : List UInt8) (t : Tok) (h : b.length ≤ 16777216) : VR W (.bytes b) (.bytes b.toArray t)
  | tup {l : List AV} {vs : List Value} {a : Addr} (h : (a, vs) ∈ W.τ) (r : VRs W l vs) (hz : l.length ≤ 16777216) : VR W (.tup l) (.ref a)
  | obj {i : Nat} {a : Addr} {r : List Addr} (h : W.ρ[i]? = some (a :: r)) : VR W (.obj i) (.ref a)
inductive VRs (W : Wd) : List AV → List Value → Prop
  | nil : VRs W [] []
  | cons {x : AV} {v : Value} {l : List AV} {vs : List Value} (h : VR W x v) (r : VRs W l vs) : VRs W (x :: l) (v :: vs)
end

theorem VR.inv_n {W : Wd} {v : Value} (h : VR W .none v) : v = .none := by cases h; rfl
theorem VR.inv_i {W : Wd} {i : Int} {v : Value} (h : VR W (.int i) v) : ∃ t, v = .int i t := by cases h; exact ⟨_, rfl⟩
theorem VR.inv_b {W : Wd} {b : Bool} {v : Value} (h : VR W (.bool b) v) : v = .bool b := by cases h; rfl
theorem VR.inv_s {W : Wd} {s : Str} {v : Value} (h : VR W (.str s) v) : ∃ t, v = .str s t ∧ s.length ≤ 16777216 := by cases h; exact ⟨_, rfl, by assumption⟩
theorem VR.inv_y {W : Wd} {b : List UInt8} {v : Value} (h : VR W (.bytes b) v) : ∃ t, v = .bytes b.toArray t ∧ b.length ≤ 16777216 := by cases h; exact ⟨_, rfl, by assumption⟩
theorem VR.inv_t {W : Wd} {l : List AV} {v : Value} (h : VR W (.tup l) v) : ∃ vs a, v = .ref a ∧ (a, vs) ∈ W.τ ∧ VRs W l vs ∧ l.length ≤ 16777216 := by cases h with | tup a b c => exact ⟨_, _, rfl, a, b, c⟩
theorem VR.inv_o {W : Wd} {i : Nat} {v : Value} (h : VR W (.obj i) v) : ∃ a r, v = .ref a ∧ W.ρ[i]? = some (a :: r) := by cases h with | obj a => exact ⟨_, _, rfl, a⟩
theorem VRs.inv_nil {W : Wd} {vs : List Value} (h : VRs W [] vs) : vs = [] := by cases h; rfl
theorem VRs.inv_cons {W : Wd} {x : AV} {l : List AV} {vs : List Value} (h : VRs W (x :: l) vs) : ∃ v r, vs = v :: r ∧ VR W x v ∧ VRs W l r := by cases h with | cons a b => exact ⟨_, _, rfl, a, b⟩
theorem VR.mono {W W' : Wd} (x : W.le W') {a : AV} {v : Value} (h : VR W a v) : VR W' a v :=
  @VR.rec W (fun a v _ => VR W' a v) (fun a v _ => VRs W' a v) .none .bool .int .str .bytes (fun h _ hz r => .tup (x.τ _ h) r hz) (fun h => .obj (x.at h)) .nil (fun _ _ h r => .cons h r) a v h
theorem VRs.mono {W W' : Wd} (x : W.le W') {a : List AV} {v : List Value} (h : VRs W a v) : VRs W' a v :=
  @VRs.rec W (fun a v _ => VR W' a v) (fun a v _ => VRs W' a v) .none .bool .int .str .bytes (fun h _ hz r => .tup (x.τ _ h) r hz) (fun h => .obj (x.at h)) .nil (fun _ _ h r => .cons h r) a v h

theorem VRs.length {W : Wd} {l : List AV} {vs : List Value} (h : VRs W l vs) : vs.length = l.length := by
  induction l generalizing vs with
  | nil => obtain rfl := VRs.inv_nil h; rfl
  | cons x l ih => obtain ⟨v, r, rfl, _, q⟩ := VRs.inv_cons h; exact congrArg (· + 1) (ih q)
theorem VRs.get {W : Wd} {l : List AV} {vs : List Value} (h : VRs W l vs) {i : Nat} {a : AV} (e : l[i]? = some a) : ∃ v, vs[i]? = some v ∧ VR W a v := by
  induction l generalizing vs i with
  | nil => rw [List.getElem?_nil] at e; cases e
  | cons x l ih =>
    obtain ⟨v, r, rfl, hx, q⟩ := VRs.inv_cons h
    cases i with
    | zero => rw [List.getElem?_cons_zero] at e ⊢; cases e; exact ⟨_, rfl, hx⟩
    | succ i => rw [List.getElem?_cons_succ] at e ⊢; exact ih q e
theorem VRs.app {W : Wd} {l l' : List AV} {vs vs' : List Value} (h : VRs W l vs) (h' : VRs W l' vs') : VRs W (l ++ l') (vs ++ vs') := by
  induction l generalizing vs with
  | nil => rw [VRs.inv_nil h]; exact h'
  | cons x l ih => obtain ⟨v, r, rfl, hx, q⟩ := VRs.inv_cons h; exact .cons hx (ih q)
theorem VRs.drop {W : Wd} {l : List AV} {vs : List Value} (h : VRs W l vs) (n : Nat) : VRs W (l.drop n) (vs.drop n) := by
  induction l generalizing vs n with
  | nil => rw [VRs.inv_nil h, List.drop_nil, List.drop_nil]; exact .nil
  | cons x l ih =>
    cases n with
    | zero => exact h
    | succ n => obtain ⟨v, r, rfl, hx, q⟩ := VRs.inv_cons h; exact ih q n
theorem VRs.take {W : Wd} {l : List AV} {vs : List Value} (h : VRs W l vs) (n : Nat) : VRs W (l.take n) (vs.take n) := by
  induction l generalizing vs n with
  | nil => rw [VRs.inv_nil h, List.take_nil, List.take_nil]; exact .nil
  | cons x l ih =>
    cases n with
    | zero => exact .nil
    | succ n => obtain ⟨v, r, rfl, hx, q⟩ := VRs.inv_cons h; exact .cons hx (ih q n)
theorem VRs.set {W : Wd} {l : List AV} {vs : List Value} (h : VRs W l vs) (n : Nat) {a : AV} {v : Value} (z : VR W a v) : VRs W (l.set n a) (vs.set n v) := by
  induction l generalizing vs n with
  | nil => rw [VRs.inv_nil h, List.set_nil, List.set_nil]; exact .nil
  | cons x l ih =>
    obtain ⟨v, r, rfl, hx, q⟩ := VRs.inv_cons h
    cases n with
    | zero => exact .cons z q
    | succ n => exact .cons hx (ih q n)

noncomputable def DictAt (h : Heap) (a : Addr) (es : List DictEntry) (n : Nat) : Prop := ∃ o, h.get? a = some o ∧ o.ExactDict ∧ o.data = .dict es.toArray n
noncomputable def InstIs (h : Heap) (a c dx : Addr) : Prop := ∃ o, h.get? a = some o ∧ o.cls = .ref c ∧ o.dict = some dx ∧ o.data = .plain
noncomputable def NsAt (h : Heap) (a : Addr) (es : List DictEntry) : Prop := ∃ o n, h.get? a = some o ∧ o.cls = .type "dict" ∧ o.dict = none ∧ o.data = .dict es.toArray n

inductive DR (P : Params) (W : Wd) : List (Str × AV) → List DictEntry → Prop
  | nil : DR P W [] []
  | cons {k : Str} {t : Tok} {a : AV} {v : Value} {d : List (Str × AV)} {es : List DictEntry} (hk : k.length ≤ 16777216) (h : VR W a v) (r : DR P W d es) : DR P W ((k, a) :: d) (⟨PyData.keyHash P k, .str k t, v⟩ :: es)
theorem DR.mono {P : Params} {W W' : Wd} (x : W.le W') {d : List (Str × AV)} {es : List DictEntry} (h : DR P W d es) : DR P W' d es := by
  induction h with
  | nil => exact .nil
  | cons hk h r ih => exact .cons hk (h.mono x) ih
theorem DR.length {P : Params} {W : Wd} {d : List (Str × AV)} {es : List DictEntry} (h : DR P W d es) : es.length = d.length := by
  induction h with
  | nil => rfl
  | cons hk h r ih => exact congrArg (· + 1) ih
inductive FR (P : Params) (W : Wd) : List (Nat × AV) → List DictEntry → Prop
  | nil : FR P W [] []
  | cons {k : Nat} {t : Tok} {a : AV} {v : Value} {d : List (Nat × AV)} {es : List DictEntry} (hk : k < 6) (h : VR W a v) (r : FR P W d es) : FR P W ((k, a) :: d) (⟨PyData.keyHash P (anm k), .str (anm k) t, v⟩ :: es)
theorem FR.mono {P : Params} {W W' : Wd} (x : W.le W') {d : List (Nat × AV)} {es : List DictEntry} (h : FR P W d es) : FR P W' d es := by
  induction h with
  | nil => exact .nil
  | cons hk h r ih => exact .cons hk (h.mono x) ih
theorem FR.length {P : Params} {W : Wd} {d : List (Nat × AV)} {es : List DictEntry} (h : FR P W d es) : es.length = d.length := by
  induction h with
  | nil => rfl
  | cons hk h r ih => exact congrArg (· + 1) ih

noncomputable def ListAt (h : Heap) (a : Addr) (its : Array Value) : Prop := ∃ o, h.get? a = some o ∧ o.cls = .type "list" ∧ o.dict = none ∧ ∃ n, o.data = .seq its n
theorem ListAt.isList {h : Heap} {a : Addr} {its : Array Value} (x : ListAt h a its) : h.IsList a its := let ⟨o, ho, hc, _, n, hd⟩ := x; ⟨o, ho, hc, n, hd⟩
set_option backward.eqns.nonrecursive false in
noncomputable def OR (P : Params) (W : Wd) (h : Heap) (r : List Addr) : AO → Prop
  | .list l => ∃ a vs, r = [a] ∧ ListAt h a vs.toArray ∧ VRs W l vs ∧ l.length ≤ 16777216
  | .dict d n => ∃ a es, r = [a] ∧ DictAt h a es n ∧ DR P W d es ∧ d.length ≤ 1000000 ∧ (d.map (·.1)).Nodup
  | .inst c l => ∃ a dx es, r = [a, dx] ∧ InstIs h a c dx ∧ NsAt h dx es ∧ FR P W l es ∧ l.length ≤ 1000 ∧ (c = 155 ∨ c = 313)

structure HR (P : Params) (W : Wd) (h : Heap) (hp : Hp) : Prop where
  len : W.ρ.length = hp.length
  at_ : ∀ (i : Nat) (o : AO), hp[i]? = some o → ∃ r, W.ρ[i]? = some r ∧ OR P W h r o

structure Bx where
  w : World
  base : Heap
  s₀ : Shared
  big : ∃ g o, sysModules < g ∧ base.get? g = some o
theorem Bx.low (B : Bx) {h : Heap} (k : B.base.StaysIn h) : sysModules < h.objs.size := by
  obtain ⟨g, o, l, e⟩ := B.big
  exact Nat.lt_trans l (Heap.lt_size (k _ _ e))

structure Cx where
  env : Env
  nm : Nat → Option Str
  cl : Nat → Option (Str × Addr)
  ons : List (Addr × (Str → Option Value))
  outs : List (Addr × Obj)
  envs : List Env
  hnd : Option Addr
  ro : Bool

set_option backward.eqns.nonrecursive false in
noncomputable def HndAt (h : Heap) : Option Addr → Prop
  | none => True
  | some e => ∃ o vs, h.get? e = some o ∧ o.data = .fields vs ∧ vs[2]? = some .none

structure Stt (B : Bx) (C : Cx) (W : Wd) (st : St) (s : Shared) : Prop where
  gens : s.gens = B.s₀.gens
  drawn : s.drawn = B.s₀.drawn
  os : s.os = B.s₀.os
  stays : B.base.StaysIn s.heap
  loc : ∃ m, s.heap.Ns C.env.locals m ∧ ∀ i x av, C.nm i = some x → st.loc[i]? = some (some av) → ∃ v, m x = some v ∧ VR W av v
  cel : ∀ i x c av, C.cl i = some (x, c) → st.loc[i]? = some (some av) → ∃ v, s.heap.IsCell c (some v) ∧ VR W av v
  outer : ∀ q ∈ C.ons, s.heap.Ns q.1 q.2
  outs : ∀ p ∈ C.outs, s.heap.get? p.1 = some p.2
  objs : HR B.w.params W s.heap st.hp
  tups : ∀ t ∈ W.τ, IsTup s.heap t.1 t.2.toArray
  nodup : W.ρ.flatten.Nodup
  fresh : ∀ a ∈ W.ρ.flatten, (B.base.get? a = none ∧ a ≠ sysModules) ∧ a ≠ C.env.locals ∧ (∀ q ∈ C.ons, q.1 ≠ a) ∧ ∀ q ∈ C.outs, q.1 ≠ a
  here : B.base.get? C.env.locals = none ∧ (∀ q ∈ C.ons, (C.ro = false → q.1 ≠ C.env.locals) ∧ B.base.get? q.1 = none) ∧ ∀ q ∈ C.outs, q.1 ≠ C.env.locals
  hnd : HndAt s.heap C.hnd

section
variable {P : Params} {h h' : Heap}
theorem isTup_up (k : h.UpToSlots h') {a : Addr} {its : Array Value} (x : IsTup h a its) : IsTup h' a its := by
  obtain ⟨o, ho, hc, n, hd⟩ := x
  obtain ⟨sl, hs⟩ := k a o ho fun vs q => by rw [hd] at q; cases q
  exact ⟨_, hs, hc, n, hd⟩
theorem isCell_up (k : h.UpToSlots h') {a : Addr} {v : Option Value} (x : h.IsCell a v) : h'.IsCell a v := by
  obtain ⟨o, ho, hd⟩ := x
  obtain ⟨sl, hs⟩ := k a o ho fun vs q => by rw [hd] at q; cases q
  exact ⟨_, hs, hd⟩
theorem OR.keep {W : Wd} {r : List Addr} (k : ∀ a ∈ r, ∀ o, h.get? a = some o → h'.get? a = some o) {o : AO} (z : OR P W h r o) : OR P W h' r o := by
  cases o with
  | list _ => obtain ⟨a, vs, rfl, ⟨o, ho, x⟩, y⟩ := z; exact ⟨a, vs, rfl, ⟨o, k a (.head _) o ho, x⟩, y⟩
  | dict _ _ => obtain ⟨a, vs, rfl, ⟨o, ho, x⟩, y⟩ := z; exact ⟨a, vs, rfl, ⟨o, k a (.head _) o ho, x⟩, y⟩
  | inst _ _ => obtain ⟨a, dx, es, rfl, ⟨o, ho, x⟩, ⟨o', n, ho', x'⟩, y⟩ := z; exact ⟨a, dx, es, rfl, ⟨o, k a (.head _) o ho, x⟩, ⟨o', n, k dx (.tail _ (.head _)) o' ho', x'⟩, y⟩
theorem OR.mono {W W' : Wd} (k : W.le W') {r : List Addr} {o : AO} (z : OR P W h r o) : OR P W' h r o := by
  cases o with
  | list _ => obtain ⟨a, vs, e, x, y, z⟩ := z; exact ⟨a, vs, e, x, y.mono k, z⟩
  | dict _ _ => obtain ⟨a, es, e, x, y, z⟩ := z; exact ⟨a, es, e, x, y.mono k, z⟩
  | inst _ _ => obtain ⟨a, dx, es, e, x, x', y, z⟩ := z; exact ⟨a, dx, es, e, x, x', y.mono k, z⟩
theorem HR.up {W : Wd} (k : ∀ a ∈ W.ρ.flatten, ∀ o, h.get? a = some o → h'.get? a = some o) {hp : Hp} (x : HR P W h hp) : HR P W h' hp :=
  ⟨x.len, fun i o e => let ⟨r, hr, y⟩ := x.at_ i o e; ⟨r, hr, y.keep fun a ha => k a (List.mem_flatten.mpr ⟨r, List.mem_of_getElem? hr, ha⟩)⟩⟩
end

section
variable {B : Bx} {C : Cx} {W : Wd} {st : St} {s : Shared}
theorem Stt.up (T : Stt B C W st s) {h' : Heap} {tk : Nat} (k : s.heap.UpToSlots h') (ke : ∀ a ∈ W.ρ.flatten, ∀ o, s.heap.get? a = some o → h'.get? a = some o) (kb : B.base.StaysIn h') (kh : HndAt h' C.hnd) (ko : ∀ q ∈ C.outs, ∀ o, s.heap.get? q.1 = some o → h'.get? q.1 = some o) : Stt B C W st { s with heap := h', toks := tk } :=
  { gens := T.gens, drawn := T.drawn, os := T.os, stays := kb
    loc := let ⟨m, x, y⟩ := T.loc; ⟨m, k.ns x, y⟩
    cel := fun i x c av e e' => let ⟨v, y, z⟩ := T.cel i x c av e e'; ⟨v, isCell_up k y, z⟩
    outer := fun q hq => k.ns (T.outer q hq)
    outs := fun p hp => ko p hp _ (T.outs p hp)
    objs := T.objs.up ke
    tups := fun t ht => isTup_up k (T.tups t ht)
    nodup := T.nodup, fresh := T.fresh, here := T.here, hnd := kh }
theorem HndAt.keeps {h h' : Heap} {e : Option Addr} (x : HndAt h e) (k : ∀ b o, h.get? b = some o → h'.get? b = some o) : HndAt h' e := by
  cases e with
  | none => trivial
  | some e => obtain ⟨o, vs, ho, r⟩ := x; exact ⟨o, vs, k _ _ ho, r⟩
theorem Stt.ext (T : Stt B C W st s) {h' : Heap} {tk : Nat} (k : ∀ b o, s.heap.get? b = some o → h'.get? b = some o) : Stt B C W st { s with heap := h', toks := tk } :=
  T.up (Heap.UpToSlots.of_keeps k) (fun a _ o e => k a o e) (fun b o e => k b o (T.stays b o e)) (T.hnd.keeps k) fun q _ o e => k q.1 o e
theorem Stt.tick (T : Stt B C W st s) {tk : Nat} : Stt B C W st { s with toks := tk } := T.ext fun _ _ e => e
theorem Stt.push (T : Stt B C W st s) (o : Obj) {tk : Nat} : Stt B C W st { s with heap := s.heap.push o, toks := tk } := T.ext fun _ _ e => Heap.get?_push_of_some o e

theorem isTup_but {h h' : Heap} {a b : Addr} (k : Heap.SameBut b h h') (ne : a ≠ b) {its : Array Value} (x : IsTup h a its) : IsTup h' a its := let ⟨o, ho, r⟩ := x; ⟨o, (k.2 a ne).trans ho, r⟩
theorem OR.but {P : Params} {W : Wd} {h h' : Heap} {b : Addr} (k : Heap.SameBut b h h') {r : List Addr} (ne : b ∉ r) {o : AO} (x : OR P W h r o) : OR P W h' r o :=
  x.keep fun a ha _ e => (k.2 a fun q => ne (q ▸ ha)).trans e

theorem ns_ne_tup {h : Heap} {a b : Addr} {m : Str → Option Value} {its : Array Value} (x : h.Ns a m) (y : IsTup h b its) : b ≠ a := by
  rintro rfl
  obtain ⟨o, es, n, ho, hd, _⟩ := x
  obtain ⟨o', ho', _, n', hd'⟩ := y
  rw [ho] at ho'; cases ho'; rw [hd] at hd'; cases hd'
theorem ns_ne_cell {h : Heap} {a b : Addr} {m : Str → Option Value} {v : Option Value} (x : h.Ns a m) (y : h.IsCell b v) : b ≠ a := by
  rintro rfl
  obtain ⟨o, es, n, ho, hd, _⟩ := x
  obtain ⟨o', ho', hd'⟩ := y
  rw [ho] at ho'; cases ho'; rw [hd] at hd'; cases hd'
theorem HndAt.but {h h' : Heap} {e : Option Addr} {b : Addr} {ob : Obj} (x : HndAt h e) (k : Heap.SameBut b h h') (hb : h.get? b = some ob) (hd : ∀ vs, ob.data ≠ .fields vs) : HndAt h' e := by
  cases e with
  | none => trivial
  | some e =>
    obtain ⟨o, vs, ho, hf, r⟩ := x
    refine ⟨o, vs, (k.2 e ?_).trans ho, hf, r⟩
    rintro rfl
    rw [hb] at ho; cases ho; exact hd _ hf

theorem Stt.setLoc (T : Stt B C W st s) (hro : C.ro = false) {m m' : Str → Option Value} {h' : Heap} {tk : Nat} {i : Nat} {x : Str} {av : AV} {v : Value}
    (hm : s.heap.Ns C.env.locals m) (hl : ∀ i x av, C.nm i = some x → st.loc[i]? = some (some av) → ∃ v, m x = some v ∧ VR W av v)
    (hn : h'.Ns C.env.locals m') (e : m' = fun y => if y = x then some v else m y) (k : Heap.SameBut C.env.locals s.heap h') (hx : C.nm i = some x)
    (inj : ∀ i j y, C.nm i = some y → C.nm j = some y → i = j) (nc : ∀ i y c, C.cl i = some (y, c) → C.nm i = none) (hv : VR W av v) : Stt B C W (st.set i av) { s with heap := h', toks := tk } := by
  have hm' := hm
  obtain ⟨oL, es, n, hL, hLd, _⟩ := hm'
  refine { gens := T.gens, drawn := T.drawn, os := T.os, stays := fun b o q => (k.2 b ?_).trans (T.stays b o q), loc := ⟨m', hn, ?_⟩, cel := ?_, outer := ?_, outs := ?_, objs := ?_, tups := ?_, nodup := T.nodup, fresh := T.fresh, here := T.here, hnd := ?_ }
  · rintro rfl; rw [T.here.1] at q; cases q
  · intro j y bv hj hlj
    subst e
    by_cases hij : i = j
    · subst hij
      obtain rfl : x = y := Option.some.inj (hx.symm.trans hj)
      unfold St.set at hlj
      dsimp only at hlj
      rw [List.getElem?_set_self'] at hlj
      cases q : st.loc[i]? with
      | none => rw [q] at hlj; cases hlj
      | some o => rw [q] at hlj; cases hlj; exact ⟨v, by simp, hv⟩
    · unfold St.set at hlj
      dsimp only at hlj
      rw [List.getElem?_set_ne hij] at hlj
      obtain ⟨u, hu, hr⟩ := hl j y bv hj hlj
      refine ⟨u, ?_, hr⟩
      have : y ≠ x := fun q => hij (inj i j y (q ▸ hx) hj)
      simp [this, hu]
  · intro j y c bv hj hlj
    have hij : i ≠ j := fun q => by subst q; rw [nc i y c hj] at hx; cases hx
    unfold St.set at hlj
    dsimp only at hlj
    rw [List.getElem?_set_ne hij] at hlj
    obtain ⟨u, hu, hr⟩ := T.cel j y c bv hj hlj
    exact ⟨u, hu.sameBut k (ns_ne_cell hm hu), hr⟩
  · exact fun q hq => (T.outer q hq).sameBut k ((T.here.2.1 q hq).1 hro)
  · exact fun p hp => (k.2 _ (T.here.2.2 p hp)).trans (T.outs p hp)
  · refine ⟨T.objs.len, fun j o hj => ?_⟩
    obtain ⟨r, hr, ho⟩ := T.objs.at_ j o hj
    exact ⟨r, hr, ho.but k fun hL => (T.fresh _ (List.mem_flatten.mpr ⟨r, List.mem_of_getElem? hr, hL⟩)).2.1 rfl⟩
  · exact fun t ht => isTup_but k (ns_ne_tup hm (T.tups t ht)) (T.tups t ht)
  · exact T.hnd.but k hL fun vs q => by rw [hLd] at q; cases q

theorem nodup_flatten_ne {l : List (List Addr)} (h : l.flatten.Nodup) {i j : Nat} {r q : List Addr} (hi : l[i]? = some r) (hj : l[j]? = some q) (hij : i ≠ j) {a : Addr} (ha : a ∈ r) : a ∉ q := by
  induction l generalizing i j with
  | nil => simp at hi
  | cons x l ih =>
    rw [List.flatten_cons, List.nodup_append] at h
    cases i with
    | zero =>
      cases j with
      | zero => exact absurd rfl hij
      | succ j =>
        simp only [List.getElem?_cons_zero, Option.some.injEq, List.getElem?_cons_succ] at hi hj
        subst hi
        intro hq
        exact h.2.2 a ha a (List.mem_flatten.mpr ⟨q, List.mem_of_getElem? hj, hq⟩) rfl
    | succ i =>
      cases j with
      | zero =>
        simp only [List.getElem?_cons_zero, Option.some.injEq, List.getElem?_cons_succ] at hi hj
        subst hj
        intro hq
        exact h.2.2 a hq a (List.mem_flatten.mpr ⟨r, List.mem_of_getElem? hi, ha⟩) rfl
      | succ j =>
        simp only [List.getElem?_cons_succ] at hi hj
        exact ih h.2.1 hi hj (fun q => hij (by rw [q]))

theorem Stt.setObj (T : Stt B C W st s) {j : Nat} {r : List Addr} {a : Addr} {ob : Obj} {o' : AO} {h' : Heap} {tk : Nat} (hr : W.ρ[j]? = some r) (ha : a ∈ r)
    (hob : s.heap.get? a = some ob) (hk : ob.cls = .type "list" ∨ ob.cls = .type "dict") (hnc : ∀ v, ob.data ≠ .cell v) (hnf : ∀ vs, ob.data ≠ .fields vs)
    (k : Heap.SameBut a s.heap h') (ho : OR B.w.params W h' r o') : Stt B C W (st.put j o') { s with heap := h', toks := tk } := by
  have hfa := T.fresh a (List.mem_flatten.mpr ⟨r, List.mem_of_getElem? hr, ha⟩)
  have hjl : j < st.hp.length := by rw [← T.objs.len]; exact (List.getElem?_eq_some_iff.mp hr).1
  have ncell : ∀ {c : Addr} {v : Option Value}, s.heap.IsCell c v → c ≠ a := by
    rintro c v ⟨o, q, hd⟩ rfl
    rw [hob] at q; cases q; exact hnc _ hd
  obtain ⟨m, hm, hl⟩ := T.loc
  refine { gens := T.gens, drawn := T.drawn, os := T.os, stays := fun b o q => (k.2 b ?_).trans (T.stays b o q), loc := ⟨m, hm.sameBut k hfa.2.1.symm, hl⟩, cel := ?_, outer := ?_, outs := ?_, objs := ?_, tups := ?_, nodup := T.nodup, fresh := T.fresh, here := T.here, hnd := T.hnd.but k hob hnf }
  · rintro rfl; rw [hfa.1.1] at q; cases q
  · intro i x c av e e'
    obtain ⟨v, y, z⟩ := T.cel i x c av e e'
    exact ⟨v, y.sameBut k (ncell y), z⟩
  · exact fun q hq => (T.outer q hq).sameBut k (hfa.2.2.1 q hq)
  · exact fun p hp => (k.2 _ (hfa.2.2.2 p hp)).trans (T.outs p hp)
  · refine ⟨by simp [St.put, T.objs.len], fun i o hi => ?_⟩
    unfold St.put at hi
    dsimp only at hi
    by_cases hij : j = i
    · subst hij
      rw [List.getElem?_set_self hjl] at hi
      cases hi
      exact ⟨r, hr, ho⟩
    · rw [List.getElem?_set_ne hij] at hi
      obtain ⟨q, hq, hoq⟩ := T.objs.at_ i o hi
      exact ⟨q, hq, hoq.but k (nodup_flatten_ne T.nodup hr hq hij ha)⟩
  · intro t ht
    refine isTup_but k ?_ (T.tups t ht)
    intro hta
    obtain ⟨o, q, hc, _⟩ := T.tups t ht
    rw [hta, hob] at q; cases q
    rcases hk with hk | hk <;> (rw [hk] at hc; exact absurd hc (by decide))

theorem Stt.addObj (T : Stt B C W st s) {r : List Addr} {o' : AO} {h' : Heap} {tk : Nat} (k : ∀ b o, s.heap.get? b = some o → h'.get? b = some o)
    (hn : ∀ a ∈ r, s.heap.objs.size ≤ a) (hd : r.Nodup) (ho : OR B.w.params ⟨W.ρ ++ [r], W.τ⟩ h' r o') :
    Stt B C ⟨W.ρ ++ [r], W.τ⟩ ⟨st.loc, st.hp ++ [o']⟩ { s with heap := h', toks := tk } := by
  have le : W.le ⟨W.ρ ++ [r], W.τ⟩ := ⟨⟨[r], rfl⟩, fun _ h => h⟩
  have T' := T.ext (tk := tk) k
  have lt : ∀ {a : Addr} {o : Obj}, s.heap.get? a = some o → a ∉ r := fun e hm => absurd (Heap.lt_size e) (Nat.not_lt.mpr (hn _ hm))
  obtain ⟨m, hm, hl⟩ := T.loc
  have hLr : C.env.locals ∉ r := by obtain ⟨_, _, _, e, _⟩ := hm; exact lt e
  have old : ∀ a ∈ W.ρ.flatten, ∃ o, s.heap.get? a = some o := by
    intro a ha
    obtain ⟨q, hq, haq⟩ := List.mem_flatten.mp ha
    obtain ⟨i, hi⟩ := List.getElem?_of_mem hq
    have hil : i < st.hp.length := by rw [← T.objs.len]; exact (List.getElem?_eq_some_iff.mp hi).1
    obtain ⟨q', hq', hoq⟩ := T.objs.at_ i _ (List.getElem?_eq_getElem hil)
    rw [hi] at hq'; cases hq'
    generalize st.hp[i] = o at hoq
    cases o with
    | list l => obtain ⟨b, vs, rfl, ⟨ob, hb, _⟩, _⟩ := hoq; simp at haq; subst haq; exact ⟨_, hb⟩
    | dict d n => obtain ⟨b, es, rfl, ⟨ob, hb, _⟩, _⟩ := hoq; simp at haq; subst haq; exact ⟨_, hb⟩
    | inst c l =>
      obtain ⟨b, dx, es, rfl, ⟨ob, hb, _⟩, ⟨od, n, hdx, _⟩, _⟩ := hoq
      simp at haq
      rcases haq with rfl | rfl
      · exact ⟨_, hb⟩
      · exact ⟨_, hdx⟩
  refine { gens := T.gens, drawn := T.drawn, os := T.os, stays := T'.stays, loc := ⟨m, ?_, fun i x av e e' => let ⟨v, a, b⟩ := hl i x av e e'; ⟨v, a, b.mono le⟩⟩, cel := fun i x c av e e' => let ⟨v, a, b⟩ := T'.cel i x c av e e'; ⟨v, a, b.mono le⟩, outer := T'.outer, outs := T'.outs, objs := ?_, tups := T'.tups, nodup := ?_, fresh := ?_, here := T.here, hnd := T'.hnd }
  · exact hm.keeps k
  · refine ⟨by simp [T.objs.len], fun i o hi => ?_⟩
    dsimp only at hi ⊢
    by_cases hil : i < st.hp.length
    · rw [List.getElem?_append_left hil] at hi
      obtain ⟨q, hq, hoq⟩ := T'.objs.at_ i o hi
      exact ⟨q, le.at hq, hoq.mono le⟩
    · have hl' := (List.getElem?_eq_some_iff.mp hi).1
      rw [List.length_append, List.length_singleton] at hl'
      obtain rfl : i = st.hp.length := by omega
      rw [List.getElem?_append_right (Nat.le_refl _), Nat.sub_self] at hi
      cases hi
      exact ⟨r, by rw [← T.objs.len]; simp, ho⟩
  · show (W.ρ ++ [r]).flatten.Nodup
    rw [List.flatten_append, List.nodup_append]
    refine ⟨T.nodup, by simpa using hd, fun a ha b hb => ?_⟩
    rintro rfl
    obtain ⟨o, q⟩ := old a ha
    exact lt q (by simpa using hb)
  · intro a ha
    rw [List.flatten_append, List.mem_append] at ha
    rcases ha with ha | ha
    · exact T.fresh a ha
    · have ha : a ∈ r := by simpa using ha
      refine ⟨⟨?_, fun q => ?_⟩, fun q => hLr (q ▸ ha), fun q hq e => ?_, fun q hq e => lt (T.outs q hq) (e ▸ ha)⟩
      rotate_left
      · have l1 := B.low T.stays
        have l2 := hn a ha
        rw [q] at l2
        exact absurd l1 (Nat.not_lt.mpr l2)
      rotate_right
      · cases q : B.base.get? a with
        | none => rfl
        | some o => exact absurd ha (lt (T.stays a o q))
      · obtain ⟨_, _, _, e', _⟩ := T.outer q hq
        exact lt e' (e ▸ ha)

theorem Stt.addTup (T : Stt B C W st s) {a : Addr} {vs : List Value} (ht : IsTup s.heap a vs.toArray) : Stt B C ⟨W.ρ, (a, vs) :: W.τ⟩ st s := by
  have le : W.le ⟨W.ρ, (a, vs) :: W.τ⟩ := ⟨⟨[], by simp⟩, fun _ h => .tail _ h⟩
  obtain ⟨m, hm, hl⟩ := T.loc
  exact { gens := T.gens, drawn := T.drawn, os := T.os, stays := T.stays, loc := ⟨m, hm, fun i x av e e' => let ⟨v, a, b⟩ := hl i x av e e'; ⟨v, a, b.mono le⟩⟩, cel := fun i x c av e e' => let ⟨v, a, b⟩ := T.cel i x c av e e'; ⟨v, a, b.mono le⟩
          outer := T.outer, outs := T.outs, objs := ⟨T.objs.len, fun i o e => let ⟨r, hr, y⟩ := T.objs.at_ i o e; ⟨r, hr, y.mono le⟩⟩
          tups := fun t h => (List.mem_cons.mp h).elim (fun e => e ▸ ht) (T.tups t)
          nodup := T.nodup, fresh := T.fresh, here := T.here, hnd := T.hnd }
end
end Mine
end

noncomputable section
open PySem PySem.W PyProof.Rows PySem.Calls PySem.Spec
set_option maxRecDepth 100000
namespace Mine

set_option backward.eqns.nonrecursive false in
noncomputable def isRaw : E → Bool
  | .raw _ => true
  | _ => false
set_option backward.eqns.nonrecursive false in
noncomputable def isCom : E → Bool
  | .com .. => true
  | .comc .. => true
  | .raw _ => true
  | _ => false

set_option backward.eqns.nonrecursive false in
noncomputable def lenEs : Es → Nat
  | .nil => 0
  | .cons _ r => lenEs r + 1
set_option backward.eqns.nonrecursive false in
noncomputable def noSup : E → Bool
  | .raw _ => false
  | .call _ _ _ .nil _ => false
  | .blt _ _ .nil _ => false
  | _ => true
noncomputable abbrev LK := Nat → Option (Str × Bool)
set_option backward.eqns.nonrecursive false in
noncomputable def lkI (lk : LK) (i : Nat) (x : Str) : Bool := match lk i with
  | some y => y.1 == x
  | none => false
set_option backward.eqns.nonrecursive false in
noncomputable def lkC (lk : LK) (x : Str) (sc : Scope) : LK := fun i => match i with
  | 0 => some (x, false)
  | i + 1 => (lk i).bind fun q => if (q.2 && (sc.names.lookup q.1 == some .free && q.1 != x)) = true then some q else none
theorem ite_some {α : Type} {c : Prop} [Decidable c] {a b : α} (h : (if c then some a else none) = some b) : c ∧ a = b := by
  by_cases q : c
  · exact ⟨q, Option.some.inj ((if_pos q).symm.trans h)⟩
  · exact non ((if_neg q).symm.trans h)
noncomputable def glS (sc : Scope) (x : Str) : Bool := sc.names.lookup x == some .globalImplicit && !(x == ("__debug__" : Str))
noncomputable def scOk (lk : LK) (x : Str) (sc : Scope) : Bool := sc.kind == .function && sc.names.all (fun y => y.2 != .cell && (y.2 != .local || sc.names.lookup y.1 == some .local) && (y.2 != .free || (List.range 30).any fun i => lk i == some (y.1, true))) && sc.names.lookup x == some .local && !(x == ("__debug__" : Str))

noncomputable def gfn : List (Str × Nat) := ([("PostError", 46), ("WordFault", 59), ("MimeFault", 71), ("Cursor", 155), ("lower_code", 166), ("lower", 171), ("need_charset", 198), ("follower_span", 205), ("utf8_sign", 212),
  ("sign_at", 219), ("text_in", 226), ("strict_text", 233), ("guessed_text", 240), ("line_end", 248), ("inside_at", 255)] : List (Str × Nat)) ++ ([("closed_at", 262), ("comment_at", 269), ("Kind", 313), ("plain_kind", 324), ("is_token_code", 331),
  ("skip_between", 338), ("take_token", 345), ("is_worth_code", 352), ("take_worth", 359), ("small_word", 364), ("take_pairs", 371), ("part_number", 378), ("part_of", 385), ("joined_worth", 409), ("params_of", 416), ("read_value", 423), ("strict_kind", 430), ("read_kind", 437)] : List (Str × Nat)) ++ ([
  ("_law_pot", 442), ("_law_draw", 449), ("_law_gaps", 456), ("_law_heads", 463), ("_law_names", 470), ("_law_worths", 477), ("_law_gap", 484), ("_law_octets", 491), ("_law_past", 498), ("_law_run", 505), ("_law_quoted", 512), ("_law_text", 517),
  ("_law_small", 522), ("_law_read", 529), ("_law_alike", 534), ("law", 541)] : List (Str × Nat))

set_option backward.eqns.nonrecursive false in
noncomputable def lenC : Const → Bool
  | .str s => decide (s.length ≤ 1000)
  | .bytes b => decide (b.length ≤ 1000)
  | _ => true
set_option backward.eqns.nonrecursive false in
mutual
noncomputable def okE (lk : LK) (gl : Str → Bool) : E → Bool
  | .raw _ => true
  | .con c _ _ => lenC c
  | .loc x i _ => lkI lk i x
  | .glo x k _ => gl x && ((gcon[k]?).map (·.1)) == some x
  | .bin a _ b _ => okE lk gl a && okE lk gl b
  | .neg a _ => okE lk gl a
  | .nt a _ => okE lk gl a
  | .ife t a b _ => okE lk gl t && okE lk gl a && okE lk gl b
  | .and a b _ => okE lk gl a && okE lk gl b
  | .or a b _ => okE lk gl a && okE lk gl b
  | .or3 a b c _ => okE lk gl a && okE lk gl b && okE lk gl c
  | .cmp a _ b _ => okE lk gl a && okE lk gl b && !isRaw b
  | .cmp2 a _ b _ c _ => okE lk gl a && okE lk gl b && okE lk gl c && !isRaw b && !isRaw c
  | .tup es _ _ => okEs lk gl es && decide (lenEs es ≤ 1000)
  | .lst es _ => okEs lk gl es && decide (lenEs es ≤ 1000)
  | .dic0 _ => true
  | .dic1 _ _ _ _ _ => true
  | .sub a i _ => okE lk gl a && okE lk gl i && !isRaw i
  | .slLU a l u _ _ => okE lk gl a && okE lk gl l && okE lk gl u
  | .slL a l _ _ => okE lk gl a && okE lk gl l
  | .slU a u _ _ => okE lk gl a && okE lk gl u
  | .att a _ _ => okE lk gl a && noSup a
  | .call x f _ es _ => gl x && gfn.lookup x == some f && okEs lk gl es
  | .met a _ es pa p => okE lk gl a && okEs lk gl es && noSup a && decide (lenEs es < 25) && pa.endLine == p.line
  | .blt x _ es _ => gl x.name && okEs lk gl es
  | .app a e pa p => okE lk gl a && okE lk gl e && noSup a && !isRaw e && pa.endLine == p.line
  | .joi a e pa p => okE lk gl a && okE lk gl e && noSup a && !isRaw e && pa.endLine == p.line
  | .fnd a e pa p => okE lk gl a && okE lk gl e && noSup a && !isRaw e && pa.endLine == p.line
  | .dget _ _ _ _ _ x i _ _ _ pa p => lkI lk i x && pa.endLine == p.line
  | .com elt x _ it sc _ => okE lk gl it && okE (lkC lk x sc) (glS sc) elt && scOk lk x sc && !isRaw it
  | .comc elt x _ it c sc _ => okE lk gl it && okE (lkC lk x sc) (glS sc) elt && okE (lkC lk x sc) (glS sc) c && scOk lk x sc && !isRaw it
noncomputable def okEs (lk : LK) (gl : Str → Bool) : Es → Bool
  | .nil => true
  | .cons e r => okE lk gl e && !isRaw e && okEs lk gl r
end
theorem oq0 {lk : LK} {gl : Str → Bool} {u1} : okE lk gl (.raw u1) = (true) := rfl
theorem oq1 {lk : LK} {gl : Str → Bool} {u1} {u2} {u3} : okE lk gl (.con u1 u2 u3) = lenC u1 := rfl
theorem oq2 {lk : LK} {gl : Str → Bool} {x} {i} {u1} : okE lk gl (.loc x i u1) = (lkI lk i x) := rfl
theorem oq3 {lk : LK} {gl : Str → Bool} {x} {k} {u1} : okE lk gl (.glo x k u1) = (gl x && ((gcon[k]?).map (·.1)) == some x) := rfl
theorem oq4 {lk : LK} {gl : Str → Bool} {a} {u1} {b} {u2} : okE lk gl (.bin a u1 b u2) = (okE lk gl a && okE lk gl b) := rfl
theorem oq5 {lk : LK} {gl : Str → Bool} {a} {u1} : okE lk gl (.neg a u1) = (okE lk gl a) := rfl
theorem oq6 {lk : LK} {gl : Str → Bool} {a} {u1} : okE lk gl (.nt a u1) = (okE lk gl a) := rfl
theorem oq7 {lk : LK} {gl : Str → Bool} {t} {a} {b} {u1} : okE lk gl (.ife t a b u1) = (okE lk gl t && okE lk gl a && okE lk gl b) := rfl
theorem oq8 {lk : LK} {gl : Str → Bool} {a} {b} {u1} : okE lk gl (.and a b u1) = (okE lk gl a && okE lk gl b) := rfl
theorem oq9 {lk : LK} {gl : Str → Bool} {a} {b} {u1} : okE lk gl (.or a b u1) = (okE lk gl a && okE lk gl b) := rfl
theorem oq10 {lk : LK} {gl : Str → Bool} {a} {b} {c} {u1} : okE lk gl (.or3 a b c u1) = (okE lk gl a && okE lk gl b && okE lk gl c) := rfl
theorem oq11 {lk : LK} {gl : Str → Bool} {a} {u1} {b} {u2} : okE lk gl (.cmp a u1 b u2) = (okE lk gl a && okE lk gl b && !isRaw b) := rfl
theorem oq12 {lk : LK} {gl : Str → Bool} {a} {u1} {b} {u2} {c} {u3} : okE lk gl (.cmp2 a u1 b u2 c u3) = (okE lk gl a && okE lk gl b && okE lk gl c && !isRaw b && !isRaw c) := rfl
theorem oq13 {lk : LK} {gl : Str → Bool} {es} {u1} {u2} : okE lk gl (.tup es u1 u2) = (okEs lk gl es && decide (lenEs es ≤ 1000)) := rfl
theorem oq14 {lk : LK} {gl : Str → Bool} {es} {u1} : okE lk gl (.lst es u1) = (okEs lk gl es && decide (lenEs es ≤ 1000)) := rfl
theorem oq15 {lk : LK} {gl : Str → Bool} {u1} : okE lk gl (.dic0 u1) = (true) := rfl
theorem oq16 {lk : LK} {gl : Str → Bool} {u1} {u2} {u3} {u4} {u5} : okE lk gl (.dic1 u1 u2 u3 u4 u5) = (true) := rfl
theorem oq17 {lk : LK} {gl : Str → Bool} {a} {i} {u1} : okE lk gl (.sub a i u1) = (okE lk gl a && okE lk gl i && !isRaw i) := rfl
theorem oq18 {lk : LK} {gl : Str → Bool} {a} {l} {u} {u1} {u2} : okE lk gl (.slLU a l u u1 u2) = (okE lk gl a && okE lk gl l && okE lk gl u) := rfl
theorem oq19 {lk : LK} {gl : Str → Bool} {a} {l} {u1} {u2} : okE lk gl (.slL a l u1 u2) = (okE lk gl a && okE lk gl l) := rfl
theorem oq20 {lk : LK} {gl : Str → Bool} {a} {u} {u1} {u2} : okE lk gl (.slU a u u1 u2) = (okE lk gl a && okE lk gl u) := rfl
theorem oq21 {lk : LK} {gl : Str → Bool} {a} {u1} {u2} : okE lk gl (.att a u1 u2) = (okE lk gl a && noSup a) := rfl
theorem oq22 {lk : LK} {gl : Str → Bool} {x} {f} {u1} {es} {u2} : okE lk gl (.call x f u1 es u2) = (gl x && gfn.lookup x == some f && okEs lk gl es) := rfl
theorem oq23 {lk : LK} {gl : Str → Bool} {a} {u1} {es} {pa} {p} : okE lk gl (.met a u1 es pa p) = (okE lk gl a && okEs lk gl es && noSup a && decide (lenEs es < 25) && pa.endLine == p.line) := rfl
theorem oq24 {lk : LK} {gl : Str → Bool} {x} {u1} {es} {u2} : okE lk gl (.blt x u1 es u2) = (gl x.name && okEs lk gl es) := rfl
theorem oq25 {lk : LK} {gl : Str → Bool} {a} {e} {pa} {p} : okE lk gl (.app a e pa p) = (okE lk gl a && okE lk gl e && noSup a && !isRaw e && pa.endLine == p.line) := rfl
theorem oq26 {lk : LK} {gl : Str → Bool} {a} {e} {pa} {p} : okE lk gl (.joi a e pa p) = (okE lk gl a && okE lk gl e && noSup a && !isRaw e && pa.endLine == p.line) := rfl
theorem oq27 {lk : LK} {gl : Str → Bool} {a} {e} {pa} {p} : okE lk gl (.fnd a e pa p) = (okE lk gl a && okE lk gl e && noSup a && !isRaw e && pa.endLine == p.line) := rfl
theorem oq28 {lk : LK} {gl : Str → Bool} {u1} {u2} {u3} {u4} {u5} {x} {i} {u6} {u7} {u8} {pa} {p} : okE lk gl (.dget u1 u2 u3 u4 u5 x i u6 u7 u8 pa p) = (lkI lk i x && pa.endLine == p.line) := rfl
theorem oq29 {lk : LK} {gl : Str → Bool} {elt} {x} {u1} {it} {sc} {u2} : okE lk gl (.com elt x u1 it sc u2) = (okE lk gl it && okE (lkC lk x sc) (glS sc) elt && scOk lk x sc && !isRaw it) := rfl
theorem oq30 {lk : LK} {gl : Str → Bool} {elt} {x} {u1} {it} {c} {sc} {u2} : okE lk gl (.comc elt x u1 it c sc u2) = (okE lk gl it && okE (lkC lk x sc) (glS sc) elt && okE (lkC lk x sc) (glS sc) c && scOk lk x sc && !isRaw it) := rfl
theorem oqs0 {lk : LK} {gl : Str → Bool}  : okEs lk gl (.nil) = (true) := rfl
theorem oqs1 {lk : LK} {gl : Str → Bool} {e} {r} : okEs lk gl (.cons e r) = (okE lk gl e && !isRaw e && okEs lk gl r) := rfl

noncomputable def XOk (B : Bx) (C : Cx) (c : Nat) (e : Addr) (s : Shared) : Prop :=
  C.hnd = none ∧ B.base.get? e = none ∧ (∀ q ∈ C.outs, q.1 ≠ e) ∧ ∃ oe vs, s.heap.get? e = some oe ∧ oe.cls = .ref c ∧ oe.data = .fields vs ∧ vs[2]? = some .none ∧
    (vs[1]? = some .none ∨ ∃ T oT ts fl, vs[1]? = some (.ref T) ∧ B.base.get? T = none ∧ (∀ q ∈ C.outs, q.1 ≠ T) ∧ T ≠ e ∧ s.heap.get? T = some oT ∧ oT.data = .fields ts ∧ ts[3]? = some fl ∧ (fl = .none ∨ ∃ L, C.env.frame = some L ∧ fl = rawInt L))

noncomputable def KV (B : Bx) (C : Cx) (W : Wd) (Q : QV) (Q' : Value → Shared → Prop) : Prop := ∀ W' st' s' av v, W.le W' → Stt B C W' st' s' → VR W' av v → Q av st' → Q' v s'
noncomputable def KB (B : Bx) (C : Cx) (W : Wd) (Q : QV) (Q' : Bool → Shared → Prop) : Prop := ∀ W' st' s' b, W.le W' → Stt B C W' st' s' → Q (.bool b) st' → Q' b s'
noncomputable def KX (B : Bx) (C : Cx) (W : Wd) (X : QX) (E' : Value → Shared → Prop) : Prop := ∀ W' st' s' c e, W.le W' → Stt B C W' st' s' → XOk B C c e s' → X c st' → E' (.ref e) s'
theorem KX.mono {B : Bx} {C : Cx} {W W' : Wd} {X : QX} {E' : Value → Shared → Prop} (h : KX B C W X E') (x : W.le W') : KX B C W' X E' := fun _ _ _ _ _ y => h _ _ _ _ _ (x.trans y)

structure AOk (C : Cx) (A : Around) (n : Nat) : Prop where
  frames : A.frames = some C.envs
  depth : A.depth + 4 * n + 20 < recursionLimit
  units : A.units + 30 * n + 200 < cLine
  handled : A.handled = C.hnd.map Value.ref

structure CxOk (B : Bx) (C : Cx) (lk : LK) (gl : Str → Bool) : Prop where
  kind : C.env.scope.kind = .function
  globals : C.env.globals = mainGlobals
  builtins : C.env.builtins = builtinsNs
  lk : ∀ i x b, lk i = some (x, b) → if b = true then ∃ c, C.cl i = some (x, c) else C.nm i = some x
  nm : ∀ i x, C.nm i = some x → C.env.kindOf x = some .local ∧ (x == ("__debug__" : Str)) = false
  inj : ∀ i j y, C.nm i = some y → C.nm j = some y → i = j
  nc : ∀ i y c, C.cl i = some (y, c) → C.nm i = none
  cl : ∀ i x c, C.cl i = some (x, c) → (C.env.kindOf x = some .cell ∨ C.env.kindOf x = some .free) ∧ C.env.cells.lookup x = some c ∧ (x == ("__debug__" : Str)) = false ∧ (x == ("__classdict__" : Str)) = false
  gl : ∀ x, gl x = true → C.env.kindOf x = some .globalImplicit ∧ (x == ("__debug__" : Str)) = false
  outs : ∀ q ∈ C.outs, ∀ es n, q.2.data ≠ .dict es n
  frs : ∀ env ∈ C.envs, env.scope.kind ≠ .module ∧ ∃ L, env.frame = some L ∧ (L = C.env.locals ∨ ∃ m, (L, m) ∈ C.ons)

inductive ConR (K : Frag) (τ : List (Addr × List Value)) : AV → Value → Prop
  | int (i : Int) (t : Tok) : ConR K τ (.int i) (.int i t)
  | str (s : Str) (t : Tok) (h : s.length ≤ 1000) : ConR K τ (.str s) (.str s t)
  | bytes (b : List UInt8) (t : Tok) (h : b.length ≤ 1000) : ConR K τ (.bytes b) (.bytes b.toArray t)
  | tup (a : Addr) (l : List AV) (vs : List Value) (h : (a, vs) ∈ τ) (r : ∀ W, VRs W l vs) (hz : l.length ≤ 1000) : ConR K τ (.tup l) (.ref a)

noncomputable def fnIs (f : Nat) : Bool := gfn.any (fun q => q.2 == f) || [95, 103, 110, 117, 124, 289, 296, 303, 310].contains f
structure KOk (K : Frag) (τ : List (Addr × List Value)) : Prop where
  fns : ∀ x f, gfn.lookup x = some f → nsIn K mainGlobals x = some (some (.ref f))
  con : ∀ (k : Nat) (q : Str × AV), gcon[k]? = some q → ∃ v, nsIn K mainGlobals q.1 = some (some v) ∧ ConR K τ q.2 v
  blt : ∀ b : Bl, nsIn K mainGlobals b.name = some none
  range : nsIn K mainGlobals "range" = some none
  cls : ∀ c, c = 155 ∨ c = 313 → findIn K (.ref c) "__getattribute__" = some (some (.builtin "object.__getattribute__")) ∧ findIn K (.ref c) "__getattr__" = some none ∧ hasDictIn K c = true ∧
    findIn K (.ref c) "__setattr__" = some (some (.builtin "object.__setattr__")) ∧ plainOver K c = true
  natt : ∀ c n, c = 155 ∨ c = 313 → n < 6 → findIn K (.ref c) (anm n) = some none
  meth : ∀ c n f, meths c n = some f → findIn K (.ref c) (anm n) = some (some (.ref f)) ∧ typeIn K (.ref f) = some (.type "function")
  keep : ∀ f, fnIs f = true → keepIn K (.ref f) = true

structure Gx (K : Frag) (τ : List (Addr × List Value)) (B : Bx) : Prop where
  X : K.In B.base
  T : ∃ p loose mg mb, TopRead p loose mg mb B.base
  k : KOk K τ
  mods : True

structure S0 (τ : List (Addr × List Value)) (B : Bx) (C : Cx) (W : Wd) (st : St) (s : Shared) : Prop where
  T : Stt B C W st s
  τ : ∀ t ∈ τ, t ∈ W.τ

section
variable {prog : Program} {B : Bx} {C : Cx} {lk : LK} {gl : Str → Bool} {A : Around} {E' : Value → Shared → Prop} {W : Wd} {st : St} {s : Shared} {K : Frag} {τ : List (Addr × List Value)}

theorem load_glob (Z : CxOk B C lk gl) (G : Gx K τ B) (T : Stt B C W st s) {x : Str} {p : Pos} {v : Value} {Q : Value → Shared → Prop} (hg : gl x = true) (e : nsIn K mainGlobals x = some (some v)) (h : Q v s) :
    wpAny (model prog B.w) A (eval (.Name x p) C.env) Q E' s := by
  obtain ⟨_, _, mg, mb, R⟩ := G.T
  exact Name_function_global Z.kind (Z.gl x hg).1 (loadGlobal_global (by rw [Z.globals]; exact R.g.keeps T.stays) (mg_of G.X R.g e) h) (Z.gl x hg).2
theorem load_blt (Z : CxOk B C lk gl) (G : Gx K τ B) (T : Stt B C W st s) {x : Str} {p : Pos} {v : Value} {Q : Value → Shared → Prop} (hg : gl x = true) (e : nsIn K mainGlobals x = some none) (hv : bootBuiltins x = some v) (hn : x ≠ "__name__") (h : Q v s) :
    wpAny (model prog B.w) A (eval (.Name x p) C.env) Q E' s := by
  obtain ⟨_, _, mg, mb, R⟩ := G.T
  exact Name_function_global Z.kind (Z.gl x hg).1 (loadGlobal_builtin (by rw [Z.globals]; exact R.g.keeps T.stays) (mg_none_of G.X R.g e) (by rw [Z.builtins]; exact R.b.keeps T.stays) ((R.builtins x hn).trans hv) h) (Z.gl x hg).2
theorem load_loc (Z : CxOk B C lk gl) (T : Stt B C W st s) {x : Str} {i : Nat} {p : Pos} {av : AV} {Q : Value → Shared → Prop} (hx : lkI lk i x = true) (hv : st.loc[i]? = some (some av)) (h : ∀ v, VR W av v → Q v s) :
    wpAny (model prog B.w) A (eval (.Name x p) C.env) Q E' s := by
  have hz : C.nm i = some x ∨ ∃ c, C.cl i = some (x, c) := by
    cases hy : lk i with
    | none => unfold lkI at hx; rw [hy] at hx; cases hx
    | some y =>
      unfold lkI at hx
      rw [hy] at hx
      obtain ⟨y, b⟩ := y
      obtain rfl : y = x := beq_iff_eq.mp hx
      have := Z.lk i y b hy
      cases b with
      | true => exact .inr this
      | false => exact .inl this
  rcases hz with hi | ⟨c, hc⟩
  · obtain ⟨m, hn, hl⟩ := T.loc
    obtain ⟨v, hm, hr⟩ := hl i x av hi hv
    exact wpAny_Name (wpAny_loadName_local Z.kind (Z.nm i x hi).1 hn hm (h v hr)) (Z.nm i x hi).2
  · obtain ⟨v, hv', hr⟩ := T.cel i x c av hc hv
    obtain ⟨hk, hl, hd, hcd⟩ := Z.cl i x c hc
    rcases hk with hk | hk
    · exact wpAny_Name (wpAny_loadName_cell Z.kind hk hl hv' (h v hr)) hd
    · exact wpAny_Name (wpAny_loadName_free Z.kind hk hl hv' (h v hr) hcd) hd
end
end Mine
end

noncomputable section
open PySem PySem.W PyProof.Rows PySem.Calls PySem.Spec PySem.SeqAt
set_option maxRecDepth 100000
namespace Mine

section
variable {prog : Program} {B : Bx} {C : Cx} {A : Around} {E' : Value → Shared → Prop} {W : Wd} {st : St} {s : Shared} {K : Frag} {τ : List (Addr × List Value)} {n : Nat} {Q' : Value → Shared → Prop} {P : AV → Prop} {PB : Bool → Prop}

noncomputable def KP (B : Bx) (C : Cx) (W : Wd) (st : St) (P : AV → Prop) (Q' : Value → Shared → Prop) : Prop := ∀ s' av v, Stt B C W st s' → VR W av v → P av → Q' v s'
noncomputable def KQ (B : Bx) (C : Cx) (W : Wd) (st : St) (P : Bool → Prop) (Q' : Value → Shared → Prop) : Prop := ∀ s' b, Stt B C W st s' → P b → Q' (.bool b) s'

theorem ints2 {a b : AV} {va vb : Value} (ha : VR W a va) (hb : VR W b vb) {R : Int → Int → Prop} (h : isI a fun x => isI b fun y => R x y) : ∃ x t y u, va = .int x t ∧ vb = .int y u ∧ R x y := by
  replace h := isI_inv h; obtain ⟨x, rfl, h⟩ := h
  replace h := isI_inv h; obtain ⟨y, rfl, h⟩ := h
  obtain ⟨t, rfl⟩ := VR.inv_i ha
  obtain ⟨u, rfl⟩ := VR.inv_i hb
  exact ⟨x, t, y, u, rfl, rfl, h⟩
theorem add_ok (T : Stt B C W st s) {a b : AV} {va vb : Value} (ha : VR W a va) (hb : VR W b vb) (h : binQ .Add a b P) (k : KP B C W st P Q') : wpAny (model prog B.w) A (binaryOp .Add va vb) Q' E' s := by
  cases a with
  | int x => obtain ⟨x, _, y, _, rfl, rfl, h⟩ := ints2 ha hb (R := fun x y => P (.int (x + y))) h; exact add_int (k _ _ _ T.tick (.int _ _) h)
  | bytes x =>
    replace h := isY_inv h; obtain ⟨y, rfl, hz, h⟩ := h
    obtain ⟨_, rfl, _⟩ := VR.inv_y ha; obtain ⟨_, rfl, _⟩ := VR.inv_y hb
    refine KBy.add_bytes (by simpa using hz) fun t' k' => ?_
    rw [List.append_toArray]
    exact k _ _ _ T.tick (.bytes _ _ (by simpa using hz)) h
  | str x =>
    replace h := isSt_inv h; obtain ⟨y, rfl, hz, h⟩ := h
    obtain ⟨_, rfl, _⟩ := VR.inv_s ha; obtain ⟨_, rfl, _⟩ := VR.inv_s hb
    refine KOpn.add hz fun t' k' hl => ?_
    exact k _ _ _ T.tick (.str _ _ (by omega)) h
  | _ => exact h.elim
theorem bin_ok (T : Stt B C W st s) {o : Operator} {a b : AV} {va vb : Value} (ha : VR W a va) (hb : VR W b vb) (h : binQ o a b P) (k : KP B C W st P Q') : wpAny (model prog B.w) A (binaryOp o va vb) Q' E' s := by
  cases o with
  | Add => exact add_ok T ha hb h k
  | Sub => obtain ⟨x, _, y, _, rfl, rfl, h⟩ := ints2 ha hb h; exact sub_int (k _ _ _ T.tick (.int _ _) h)
  | Mult =>
    obtain ⟨x, _, y, _, rfl, rfl, ⟨x1, x2⟩, -, h⟩ := ints2 ha hb h
    exact mul_int (k _ _ _ T.tick (.int _ _) h) (IntMulOk.of_left (intBits_le_64 (by omega) (by omega)))
  | FloorDiv =>
    obtain ⟨x, _, y, _, rfl, rfl, y0, y1, h⟩ := ints2 ha hb h
    exact floordiv_int y0 (k _ _ _ T.tick (.int _ _) h) (.inl (PyProof.noPylong_small y1))
  | Mod => obtain ⟨x, _, y, _, rfl, rfl, y0, h⟩ := ints2 ha hb h; exact mod_int y0 (k _ _ _ T.tick (.int _ _) h)
  | Pow =>
    obtain ⟨x, _, y, _, rfl, rfl, ⟨x1, x2⟩, y0, y1, h⟩ := ints2 ha hb h
    exact pow_int_small y0 (by omega) (by omega) (k _ _ _ T.tick (.int _ _) h)
  | RShift => obtain ⟨x, _, y, _, rfl, rfl, y0, h⟩ := ints2 ha hb h; exact rshift_int y0 (k _ _ _ T.tick (.int _ _) h)
  | _ => exact h.elim

noncomputable def TupsAt (W : Wd) (h : Heap) : Prop := ∀ t ∈ W.τ, IsTup h t.1 t.2.toArray

theorem pyV_tup {l : List AV} : pyV (.tup l) = (pyL l).map .tuple := rfl
theorem pyL_cons {x : AV} {l : List AV} {d : List PyData} (e : pyL (x :: l) = some d) : ∃ a b, pyV x = some a ∧ pyL l = some b ∧ d = a :: b := by
  have h : (match pyV x, pyL l with | some a, some b => some (a :: b) | _, _ => none) = some d := e
  cases q : pyV x with
  | none => rw [q] at h; cases h
  | some a =>
    cases q' : pyL l with
    | none => rw [q, q'] at h; cases h
    | some b => rw [q, q'] at h; cases h; exact ⟨_, _, rfl, rfl, rfl⟩
theorem reads_tup {h : Heap} (T : TupsAt W h) {l : List AV} {vs : List Value} {a : Addr} (hm : (a, vs) ∈ W.τ) (r : ∀ ds, pyL l = some ds → ∃ as, ReadsAll h vs ds as) (d : PyData) (e : pyV (.tup l) = some d) : ∃ as, Reads h (.ref a) d as := by
  obtain ⟨xs, q, rfl⟩ := Option.map_eq_some_iff.mp (pyV_tup.symm.trans e)
  obtain ⟨as, ra⟩ := r xs q
  obtain ⟨o, ho, hc, n, hd⟩ := T _ hm
  exact ⟨_, .tuple ho hc hd ra⟩
theorem reads_cons {h : Heap} {x : AV} {v : Value} {l : List AV} {vs : List Value} (f : ∀ d, pyV x = some d → ∃ as, Reads h v d as) (r : ∀ ds, pyL l = some ds → ∃ as, ReadsAll h vs ds as) (d : List PyData) (e : pyL (x :: l) = some d) : ∃ as, ReadsAll h (v :: vs) d as := by
  obtain ⟨a, b, q, q', rfl⟩ := pyL_cons e
  obtain ⟨_, ra⟩ := f _ q
  obtain ⟨_, rb⟩ := r _ q'
  exact ⟨_, .cons ra rb⟩
theorem reads_of {h : Heap} (T : TupsAt W h) {a : AV} {v : Value} (r : VR W a v) : ∀ d, pyV a = some d → ∃ as, Reads h v d as :=
  @VR.rec W (fun a v _ => ∀ d, pyV a = some d → ∃ as, Reads h v d as) (fun l vs _ => ∀ d, pyL l = some d → ∃ as, ReadsAll h vs d as)
    (fun d e => by cases e; exact ⟨_, .none⟩) (fun b d e => by cases e; exact ⟨_, .bool b⟩) (fun i t d e => by cases e; exact ⟨_, .int i t⟩) (fun s t _ d e => by cases e; exact ⟨_, .str s t⟩)
    (fun _ _ _ d e => nomatch e) (fun h _ _ r => reads_tup T h r) (fun _ d e => nomatch e) (fun d e => by cases e; exact ⟨_, .nil⟩) (fun _ _ f r => reads_cons f r) a v r
theorem readsAll_of {h : Heap} (T : TupsAt W h) {l : List AV} {vs : List Value} (r : VRs W l vs) : ∀ d, pyL l = some d → ∃ as, ReadsAll h vs d as := by
  induction l generalizing vs with
  | nil => obtain rfl := VRs.inv_nil r; intro d e; cases e; exact ⟨_, .nil⟩
  | cons x l ih => obtain ⟨v, vs, rfl, hx, r⟩ := VRs.inv_cons r; exact reads_cons (reads_of T hx) (ih r)

theorem bnf {P : Bool → Prop} {c : Bool} (h : P (false != c)) : P c := by rw [Bool.false_bne] at h; exact h
theorem bnt {P : Bool → Prop} {c : Bool} (h : P (true != c)) : P (!c) := by rw [Bool.true_bne] at h; exact h
theorem eqL_ok (T : Stt B C W st s) (hA : AOk C A n) {va vb : Value} {neg : Bool} {P : Bool → Prop} (k : KQ B C W st P Q') {l r : List AV} {d : List PyData → PyData} (e1 : ∀ xs, (d xs).canLay0 = PyData.canLayAll0 xs) (e2 : ∀ xs, (d xs).depth = PyData.depthAll xs + 1) (e3 : ∀ xs ys, PyData.eqv (d xs) (d ys) = PyData.eqvAll xs ys)
    (ra : ∀ xs, pyL l = some xs → ∃ as, Reads s.heap va (d xs) as) (rb : ∀ xs, pyL r = some xs → ∃ as, Reads s.heap vb (d xs) as) (h : eqL l r fun c => P (neg != c)) : wpAny (model prog B.w) A (compareOp (if neg then .NotEq else .Eq) va vb) Q' E' s := by
  replace h := onO_inv h; obtain ⟨xs, hx, h⟩ := h
  replace h := onO_inv h; obtain ⟨ys, hy, c1, c2, c3, h⟩ := h
  obtain ⟨_, ra⟩ := ra xs hx
  obtain ⟨_, rb⟩ := rb ys hy
  have hm : A.units + min (d xs).depth (d ys).depth < cLine := by
    have := Nat.min_le_left (d xs).depth (d ys).depth
    have := e2 xs
    have := hA.units
    omega
  cases neg with
  | false => exact compareEq_reads ra rb ((e1 _).trans c1) ((e1 _).trans c2) hm (by rw [e3]; exact k _ _ T (by exact bnf h))
  | true => exact compareNe_reads ra rb ((e1 _).trans c1) ((e1 _).trans c2) hm (by rw [e3]; exact k _ _ T (by exact bnt h))
theorem eq_ok (T : Stt B C W st s) (hA : AOk C A n) {a b : AV} {va vb : Value} (ha : VR W a va) (hb : VR W b vb) {neg : Bool} {P : Bool → Prop} (h : eqQ a b st.hp fun c => P (neg != c)) (k : KQ B C W st P Q') :
    wpAny (model prog B.w) A (compareOp (if neg then .NotEq else .Eq) va vb) Q' E' s := by
  cases a with
  | int x =>
    replace h := isI_inv h; obtain ⟨_, rfl, h⟩ := h
    obtain ⟨_, rfl⟩ := VR.inv_i ha; obtain ⟨_, rfl⟩ := VR.inv_i hb
    cases neg with
    | false => exact eq_int (k _ _ T (by exact bnf h))
    | true => exact ne_int (k _ _ T (by exact bnt h))
  | bool x =>
    replace h := isB_inv h; obtain ⟨_, rfl, h⟩ := h
    obtain rfl := VR.inv_b ha; obtain rfl := VR.inv_b hb
    cases neg with
    | false => exact RcAt.bool_bool _ _ _ _ _ _ (k _ _ T (by exact bnf h))
    | true => exact ne_bool (k _ _ T (by exact bnt h))
  | str x =>
    replace h := isSt_inv h; obtain ⟨_, rfl, h⟩ := h
    obtain ⟨_, rfl, _⟩ := VR.inv_s ha; obtain ⟨_, rfl, _⟩ := VR.inv_s hb
    cases neg with
    | false => exact eq_str (k _ _ T (by exact bnf h))
    | true => exact ne_str (k _ _ T (by exact bnt h))
  | bytes x =>
    replace h := isY_inv h; obtain ⟨_, rfl, h⟩ := h
    obtain ⟨_, rfl, _⟩ := VR.inv_y ha; obtain ⟨_, rfl, _⟩ := VR.inv_y hb
    cases neg with
    | false => exact eq_bytes (k _ _ T (by exact bnf h))
    | true => exact ne_bytes (k _ _ T (by exact bnt h))
  | tup l =>
    replace h := isT_inv h; obtain ⟨r, rfl, h⟩ := h
    exact eqL_ok T hA k (d := .tuple) (fun xs => by simp only [PyData.canLay0]) (fun xs => by simp only [PyData.depth]) (fun xs ys => by simp only [PyData.eqv]) (fun xs e => reads_of T.tups ha _ (pyV_tup.trans (congrArg _ e))) (fun xs e => reads_of T.tups hb _ (pyV_tup.trans (congrArg _ e))) h
  | obj i =>
    have lst : ∀ {i : Nat} {v : Value} {l : List AV}, VR W (.obj i) v → st.hp[i]? = some (.list l) → ∀ xs, pyL l = some xs → ∃ as, Reads s.heap v (.list xs) as := by
      intro i v l hv hl xs e
      obtain ⟨_, _, rfl, hi⟩ := VR.inv_o hv
      obtain ⟨r, hr, a, vs, rfl, ⟨o, ho, hc, -, n, hd⟩, hvs, -⟩ := T.objs.at_ i _ hl
      rw [hi] at hr; cases hr
      obtain ⟨as, ra⟩ := readsAll_of T.tups hvs _ e
      exact ⟨_, .list ho hc hd ra⟩
    replace h := isO_inv h; obtain ⟨j, rfl, h⟩ := h
    replace h := atL_inv h; obtain ⟨l, hl, h⟩ := h
    replace h := atL_inv h; obtain ⟨r, hr, h⟩ := h
    exact eqL_ok T hA k (d := .list) (fun xs => by simp only [PyData.canLay0]) (fun xs => by simp only [PyData.depth]) (fun xs ys => by simp only [PyData.eqv]) (lst ha hl) (lst hb hr) h
  | none => exact h.elim
end
end Mine
end

noncomputable section
open PySem PySem.W PyProof.Rows PySem.Calls PySem.Spec PySem.SeqAt PySem.Builtin
set_option maxRecDepth 100000
namespace Mine

section
variable {prog : Program} {w : World} {A : Around} {E : Value → Shared → Prop} {s : Shared}

theorem gives_bytes_contains (b : List UInt8) (i : Int) (t u : Tok) (h0 : 0 ≤ i) (h1 : i < 256) :
    Gives (Builtin.«bytes.__contains__» ⟨[.bytes b.toArray t, .int i u], []⟩) (.val (.bool (byteIn i b))) := by
  refine .of_wp fun M A E s Q hq => ?_
  have e : byteIn i b = b.toArray.contains i.toNat.toUInt8 := by
    unfold byteIn
    rw [List.contains_toArray, Bool.eq_iff_iff, List.any_eq_true]
    simp only [decide_eq_true_eq, List.contains_iff_mem]
    constructor
    · rintro ⟨c, hc, rfl⟩
      have : ((c.toNat : Int).toNat).toUInt8 = c := by simp
      rw [this]; exact hc
    · intro hm
      refine ⟨_, hm, ?_⟩
      have : i.toNat < 256 := by omega
      simp only [Nat.toUInt8, UInt8.toNat_ofNat']
      omega
  rw [e] at hq
  show wpAny M A (Bytes.containsIn "bytes.__contains__" (.bytes b.toArray t) (.int i u) >>= fun r => ret (.bool r)) _ E s
  refine wpAny_bind ?_
  unfold Bytes.containsIn
  refine wpAny_bind (wpAny_attempt (wpAny_of_eq (a := i) rfl ?_))
  refine wpAny_bind (wpAny_of_eq (KBy.buffer_eq (b := b.toArray) (t := t)) ?_)
  show wpAny M A (if (decide (i < 0) || decide (i ≥ 256)) = true then _ else _) _ E s
  have hn : ¬ ((decide (i < 0) || decide (i ≥ 256)) = true) := by simp; omega
  rw [if_neg hn]
  exact wpAny_pure (wpAny_pure ⟨_, rfl, hq⟩)

end

section
variable {prog : Program} {B : Bx} {C : Cx} {A : Around} {E' : Value → Shared → Prop} {W : Wd} {st : St} {s : Shared} {n : Nat} {Q' : Value → Shared → Prop}

theorem dr_keys {w : World} {d : List (Str × AV)} {es : List DictEntry} (r : DR w.params W d es) : KeysOf (strKind prog w) es.toArray := by
  intro e he
  have he : e ∈ es := by simpa using he
  induction r with
  | nil => cases he
  | cons hk h r ih =>
    rcases List.mem_cons.mp he with rfl | he
    · exact ⟨_, strKind_is prog w _ _, rfl⟩
    · exact ih (by simpa using he) he
set_option tactic.hygienic true in
theorem dr_find {P : Params} {d : List (Str × AV)} {es : List DictEntry} (r : DR P W d es) (k : Str) :
    (d.lookup k = none ∧ findBy Value.isStrOf es.toArray k = none) ∨ ∃ a v, d.lookup k = some a ∧ findBy Value.isStrOf es.toArray k = some v ∧ VR W a v := by
  unfold findBy
  rw [List.find?_toArray]
  induction r with
  | nil => exact .inl ⟨rfl, rfl⟩
  | cons hk h r ih =>
    rename_i k' t a v d es
    rw [List.lookup_cons, List.find?_cons]
    by_cases hkk : k = k'
    · subst hkk
      refine .inr ⟨a, v, by simp, ?_, h⟩
      simp [Value.isStrOf]
    · have e1 : (k == k') = false := beq_eq_false_iff_ne.mpr hkk
      have e2 : Value.isStrOf k (.str k' t) = false := by
        simp only [Value.isStrOf]; exact beq_eq_false_iff_ne.mpr fun q => hkk q.symm
      simp only [e1, e2]
      exact ih
theorem mapOf_ok {w : World} {h : Heap} {a : Addr} {d : List (Str × AV)} {es : List DictEntry} {n : Nat} (x : DictAt h a es n) (r : DR w.params W d es) : h.MapOf (strKind prog w) a (fun k => findBy Value.isStrOf es.toArray k) := by
  obtain ⟨o, ho, hx, hd⟩ := x
  exact ⟨o, es.toArray, n, ho, hx, hd, dr_keys r, fun _ => rfl⟩

theorem notMods (T : Stt B C W st s) (_hs : True) {j : Nat} {a : Addr} {r : List Addr} (h : W.ρ[j]? = some (a :: r)) : (a == sysModules) = false := by
  exact beq_eq_false_iff_ne.mpr (T.fresh a (List.mem_flatten.mpr ⟨_, List.mem_of_getElem? h, .head _⟩)).1.2

theorem ints_are {l : List AV} {vs : List Value} (r : VRs W l vs) {ns : List Int} (e : intsOf l = some ns) : IntsAre vs ns := by
  induction l generalizing vs ns with
  | nil => obtain rfl := VRs.inv_nil r; cases e; exact .nil
  | cons x l ih =>
    obtain ⟨v, vs, rfl, hx, q⟩ := VRs.inv_cons r
    cases x with
    | int i =>
      obtain ⟨ms, hm, rfl⟩ := Option.map_eq_some_iff.mp (show (intsOf l).map (i :: ·) = some ns from e)
      obtain ⟨_, rfl⟩ := VR.inv_i hx
      exact .cons _ _ (ih q hm)
    | _ => exact non (show none = some ns from e)
theorem strs_are {l : List AV} {vs : List Value} (r : VRs W l vs) {ns : List Str} (e : strsOf l = some ns) : StrsAre vs ns := by
  induction l generalizing vs ns with
  | nil => obtain rfl := VRs.inv_nil r; cases e; exact .nil
  | cons x l ih =>
    obtain ⟨v, vs, rfl, hx, q⟩ := VRs.inv_cons r
    cases x with
    | str i =>
      obtain ⟨ms, hm, rfl⟩ := Option.map_eq_some_iff.mp (show (strsOf l).map (i :: ·) = some ns from e)
      obtain ⟨_, rfl, _⟩ := VR.inv_s hx
      exact .cons _ _ (ih q hm)
    | _ => exact non (show none = some ns from e)
inductive BytesAre : List Value → List (List UInt8) → Prop
  | nil : BytesAre [] []
  | cons (b : List UInt8) (t : Tok) {vs : List Value} {bs : List (List UInt8)} (h : BytesAre vs bs) : BytesAre (.bytes b.toArray t :: vs) (b :: bs)
theorem bytes_are {l : List AV} {vs : List Value} (r : VRs W l vs) {ns : List (List UInt8)} (e : bytesOf l = some ns) : BytesAre vs ns := by
  induction l generalizing vs ns with
  | nil => obtain rfl := VRs.inv_nil r; cases e; exact .nil
  | cons x l ih =>
    obtain ⟨v, vs, rfl, hx, q⟩ := VRs.inv_cons r
    cases x with
    | bytes i =>
      obtain ⟨ms, hm, rfl⟩ := Option.map_eq_some_iff.mp (show (bytesOf l).map (i :: ·) = some ns from e)
      obtain ⟨_, rfl, _⟩ := VR.inv_y hx
      exact .cons _ _ (ih q hm)
    | _ => exact non (show none = some ns from e)
end
end Mine
namespace Mine
section
variable {prog : Program} {B : Bx} {C : Cx} {A : Around} {E' : Value → Shared → Prop} {W : Wd} {st : St} {s : Shared} {n : Nat} {Q' : Value → Shared → Prop}

theorem eqAt_bytes (b c : List UInt8) (t u : Tok) : EqAt A s (.bytes b.toArray t) (.bytes c.toArray u) (b == c) := fun prog w E Q h => by
  unfold eqBool
  refine wpAny_holding ?_
  refine wpAny_ite_split (fun hab => ?_) (fun _ => ?_)
  · have e : (Value.bytes b.toArray t) = .bytes c.toArray u := eq_of_beq hab
    injection e with e
    have : b = c := by simpa using e
    subst this
    rw [beq_self_eq_true] at h
    exact wpAny_bind (wpAny_rule (wpAny_pure h))
  · refine wpAny_bind ?_
    show wpAny _ _ (compareOp .Eq _ _) _ _ _
    exact eq_bytes (wpAny_truthy_bool h)

set_option backward.eqns.nonrecursive false in
noncomputable def isBy (x : List UInt8) : Value → Bool
  | .bytes i _ => i.toList == x
  | _ => false
theorem any_bytes {vs : List Value} {ns : List (List UInt8)} (h : BytesAre vs ns) (x : List UInt8) : vs.any (isBy x) = ns.any (· == x) := by
  induction h with
  | nil => rfl
  | cons n t h ih => simp [ih, isBy]
theorem eq_isBy (k : List UInt8) (t : Tok) {vs : List Value} {ns : List (List UInt8)} (h : BytesAre vs ns) (y : Value) (hy : y ∈ vs) : EqAt A s y (.bytes k.toArray t) (isBy k y) := by
  induction h with
  | nil => cases hy
  | cons n u h ih =>
    rcases List.mem_cons.mp hy with rfl | hy
    · exact eqAt_bytes n k u t
    · exact ih hy

theorem in_tup_any (T : Stt B C W st s) {t : Addr} {vs : List Value} {x : Value} (ht : IsTup s.heap t vs.toArray) (e : Value → Bool) (he : ∀ y ∈ vs, EqAt A.in1 s y x (e y)) {neg : Bool} {P : Bool → Prop} (h : P (neg != vs.any e)) (k : KQ B C W st P Q') :
    wpAny (model prog B.w) A (compareOp (if neg then .NotIn else .In) x (.ref t)) Q' E' s := by
  cases neg with
  | false => exact in_tupleAt e ht (fun y hy => he y (by simpa using hy)) (by rw [List.any_toArray]; exact k _ _ T (by simpa using h))
  | true => exact notIn_tupleAt e ht (fun y hy => he y (by simpa using hy)) (by rw [List.any_toArray]; exact k _ _ T (by simpa using h))

theorem in_tup (T : Stt B C W st s) {a : AV} {va : Value} (ha : VR W a va) {t : Addr} {vs : List Value} {l : List AV} (ht : IsTup s.heap t vs.toArray) (r : VRs W l vs) {c : Bool} (hc : inTup a l = some c) {neg : Bool} {P : Bool → Prop} (h : P (neg != c)) (k : KQ B C W st P Q') :
    wpAny (model prog B.w) A (compareOp (if neg then .NotIn else .In) va (.ref t)) Q' E' s := by
  cases a with
  | int i =>
    obtain ⟨_, rfl⟩ := VR.inv_i ha
    obtain ⟨ns, hn, rfl⟩ := Option.map_eq_some_iff.mp (show (intsOf l).map (·.any (· == i)) = some c from hc)
    exact in_tup_any T ht _ (fun y hy => (eq_isInt _ _ (ints_are r hn) y hy).at _ _) (by rw [any_isInt _ (ints_are r hn)]; exact h) k
  | str i =>
    obtain ⟨_, rfl, _⟩ := VR.inv_s ha
    obtain ⟨ns, hn, rfl⟩ := Option.map_eq_some_iff.mp (show (strsOf l).map (·.any (· == i)) = some c from hc)
    cases neg with
    | false => exact in_tuple_strs ht (strs_are r hn) (k _ _ T (by exact bnf h))
    | true => exact notin_tuple_strs ht (strs_are r hn) (k _ _ T (by exact bnt h))
  | bytes i =>
    obtain ⟨_, rfl, _⟩ := VR.inv_y ha
    obtain ⟨ns, hn, rfl⟩ := Option.map_eq_some_iff.mp (show (bytesOf l).map (·.any (· == i)) = some c from hc)
    exact in_tup_any T ht _ (fun y hy => eq_isBy _ _ (bytes_are r hn) y hy) (by rw [any_bytes (bytes_are r hn)]; exact h) k
  | _ => exact non (show none = some c from hc)
theorem in_ok (T : Stt B C W st s) (hs : True) {a b : AV} {va vb : Value} (ha : VR W a va) (hb : VR W b vb) {neg : Bool} {P : Bool → Prop} (h : inQ a b st.hp fun c => P (neg != c)) (k : KQ B C W st P Q') :
    wpAny (model prog B.w) A (compareOp (if neg then .NotIn else .In) va vb) Q' E' s := by
  cases b with
  | bytes y =>
    replace h := isI_inv h; obtain ⟨i, rfl, h0, h1, h⟩ := h
    obtain ⟨_, rfl⟩ := VR.inv_i ha; obtain ⟨_, rfl, _⟩ := VR.inv_y hb
    cases neg with
    | false => exact in_gives (typeIs_bytes s _ _) FB.slot_bytes_contains FB.entry_bytes_contains (FB.args_bytes_contains_2 _ _) (gives_bytes_contains _ _ _ _ h0 h1) (k _ _ T (by exact bnf h))
    | true => exact notIn_gives (typeIs_bytes s _ _) FB.slot_bytes_contains FB.entry_bytes_contains (FB.args_bytes_contains_2 _ _) (gives_bytes_contains _ _ _ _ h0 h1) (k _ _ T (by exact bnt h))
  | tup l =>
    replace h := onO_inv h; obtain ⟨c, hc, h⟩ := h
    obtain ⟨_, _, rfl, hm, r, _⟩ := VR.inv_t hb
    exact in_tup T ha (T.tups _ hm) r hc h k
  | obj j =>
    replace h := isSt_inv h; obtain ⟨x, rfl, h⟩ := h
    obtain ⟨_, rfl, _⟩ := VR.inv_s ha
    obtain ⟨_, _, rfl, hj⟩ := VR.inv_o hb
    replace h := atD_inv h; obtain ⟨d, _, hd, h⟩ := h
    obtain ⟨r, hr, a, es, rfl, hx, hdr, -⟩ := T.objs.at_ j _ hd
    rw [hj] at hr; cases hr
    have hm := mapOf_ok (prog := prog) hx hdr
    have e : (findBy Value.isStrOf es.toArray x).isSome = (d.lookup x).isSome := by
      rcases dr_find hdr x with ⟨e1, e2⟩ | ⟨_, _, e1, e2, _⟩ <;> rw [e1, e2] <;> rfl
    cases neg with
    | false => exact wpAny_in_of (strKind_is prog B.w _ _) (notMods T hs hj) hm (by rw [e]; exact k _ _ T.tick (by exact bnf h))
    | true => exact wpAny_notIn_of (strKind_is prog B.w _ _) (notMods T hs hj) hm (by rw [e]; exact k _ _ T.tick (by exact bnt h))
  | _ => exact h.elim

theorem truth_ok (T : Stt B C W st s) {a : AV} {v : Value} (ha : VR W a v) {P : Bool → Prop} {Q' : Bool → Shared → Prop} (h : truthQ a st.hp P) (k : ∀ s' b, Stt B C W st s' → P b → Q' b s') : wpAny (model prog B.w) A (truthy v) Q' E' s := by
  cases a with
  | bool b => obtain rfl := VR.inv_b ha; exact wpAny_truthy_bool (k _ _ T h)
  | obj i =>
    obtain ⟨_, _, rfl, hi⟩ := VR.inv_o ha
    replace h := atL_inv h; obtain ⟨l, hl, h⟩ := h
    obtain ⟨r, hr, a, vs, rfl, x, hvs, hz⟩ := T.objs.at_ _ _ hl
    have x := x.isList
    rw [hi] at hr; cases hr
    refine wpAny_truthy_list x (by have := hvs.length; simp; omega) (k _ _ T.tick ?_)
    have e : (!vs.toArray.isEmpty) = !l.isEmpty := by cases hvs <;> rfl
    rw [e]; exact h
  | _ => exact h.elim

theorem sub_seq {vs : List Value} {l : List AV} (r : VRs W l vs) {kk : Int} {c : AV} (h0 : 0 ≤ kk) (hc : l[kk.toNat]? = some c) : ∃ v, vs.toArray[kk.toNat]? = some v ∧ VR W c v ∧ kk.toNat < vs.length ∧ kk < (vs.length : Int) := by
  obtain ⟨v, hv, hr⟩ := r.get hc
  have hl : kk.toNat < vs.length := (List.getElem?_eq_some_iff.mp hv).1
  exact ⟨v, by rw [List.getElem?_toArray]; exact hv, hr, hl, by omega⟩
theorem sub_ok (T : Stt B C W st s) {a i : AV} {va vi : Value} (ha : VR W a va) (hi : VR W i vi) {P : AV → Prop} (h : subQ a i st.hp P) (k : KP B C W st P Q') : wpAny (model prog B.w) A (getItem va vi) Q' E' s := by
  cases a with
  | bytes b =>
    replace h := isI_inv h; obtain ⟨kk, rfl, h⟩ := h
    replace h := onS_ex h; obtain ⟨h0, c, hc, h⟩ := h
    obtain ⟨_, rfl, hz⟩ := VR.inv_y ha; obtain ⟨_, rfl⟩ := VR.inv_i hi
    have hl : kk.toNat < b.length := (List.getElem?_eq_some_iff.mp hc).1
    refine getItem_bytes (by omega) h0 (by omega) ?_
    rw [List.getD_eq_getElem?_getD, hc]
    exact k _ _ _ T.tick (.int _ _) h
  | tup l =>
    replace h := isI_inv h; obtain ⟨kk, rfl, h⟩ := h
    replace h := onS_ex h; obtain ⟨h0, c, hc, h⟩ := h
    obtain ⟨_, rfl⟩ := VR.inv_i hi
    obtain ⟨vs, _, rfl, hm, r, hz⟩ := VR.inv_t ha
    obtain ⟨v, hv, hr, hl, h2⟩ := sub_seq r h0 hc
    have hsz : vs.length < 2 ^ 63 := by rw [r.length]; omega
    have h1 : ¬ kk < 0 := by omega
    exact getItem_tuple (k := kk) (j := kk.toNat) (T.tups _ hm) (by omega) (by omega) (by simp [seqIndex?, h0, h1, h2]) hv (k _ _ _ T hr h)
  | obj j =>
    obtain ⟨_, _, rfl, hj⟩ := VR.inv_o ha
    cases i with
    | int kk =>
      obtain ⟨_, rfl⟩ := VR.inv_i hi
      replace h := atL_inv h; obtain ⟨l, hl, h⟩ := h
      replace h := onS_ex h; obtain ⟨h0, c, hc, h⟩ := h
      obtain ⟨r, hr, a, vs, rfl, x, hvs, hz⟩ := T.objs.at_ _ _ hl
      have x := x.isList
      rw [hj] at hr; cases hr
      obtain ⟨v, hv, hr, h1, h2⟩ := sub_seq hvs h0 hc
      have := hvs.length
      exact wpAny_getItem_list x h0 (by omega) hv (k _ _ _ T hr h)
    | str kk =>
      obtain ⟨_, rfl, _⟩ := VR.inv_s hi
      replace h := atD_inv h; obtain ⟨d, _, hd, h⟩ := h
      replace h := onS_ex h; obtain ⟨-, c, hc, h⟩ := h
      obtain ⟨r, hr, a, es, rfl, hx, hdr, -⟩ := T.objs.at_ _ _ hd
      rw [hj] at hr; cases hr
      rcases dr_find hdr kk with ⟨e1, e2⟩ | ⟨_, v, e1, e2, hr⟩
      · rw [e1] at hc; cases hc
      · rw [e1] at hc; cases hc
        exact wpAny_getItem_of (strKind_is prog B.w _ _) (mapOf_ok (prog := prog) hx hdr) e2 (k _ _ _ T.tick hr h)
    | _ => exact h.elim
  | _ => exact h.elim
end
end Mine
end

noncomputable section
open PySem PySem.W PyProof.Rows PySem.Calls PySem.Spec PySem.SeqAt PySem.Builtin
set_option maxRecDepth 100000
namespace Mine

section
variable (prog : Program) (K : Frag) (τ : List (Addr × List Value)) (B : Bx) (Φ : Fn) (n : Nat)
noncomputable def SEv (e : E) : Prop := ∀ (C : Cx) (lk : LK) (gl : Str → Bool) (A : Around) (W : Wd) (st : St) (s : Shared) (Q : QV) (X : QX) (Q' E' : Value → Shared → Prop),
  CxOk B C lk gl → okE lk gl e = true → AOk C A n → (∀ t ∈ τ, t ∈ W.τ) → Stt B C W st s → wp Φ C.hnd.isSome false e st Q X → KV B C W Q Q' → KX B C W X E' → wpAny (model prog B.w) A (eval (emb e) C.env) Q' E' s
noncomputable def SEt (e : E) : Prop := ∀ (C : Cx) (lk : LK) (gl : Str → Bool) (A : Around) (W : Wd) (st : St) (s : Shared) (Q : QV) (X : QX) (Q' : Bool → Shared → Prop) (E' : Value → Shared → Prop),
  CxOk B C lk gl → okE lk gl e = true → AOk C A n → (∀ t ∈ τ, t ∈ W.τ) → Stt B C W st s → wp Φ C.hnd.isSome true e st Q X → KB B C W Q Q' → KX B C W X E' → wpAny (model prog B.w) A (isTrue (emb e) C.env (eval (emb e) C.env)) Q' E' s
noncomputable def SEs (es : Es) : Prop := ∀ (C : Cx) (lk : LK) (gl : Str → Bool) (A : Around) (W : Wd) (st : St) (s : Shared) (Q : List AV → St → Prop) (X : QX) (Q' : List Value → Shared → Prop) (E' : Value → Shared → Prop) (p : Pos),
  CxOk B C lk gl → okEs lk gl es = true → AOk C A n → (∀ t ∈ τ, t ∈ W.τ) → Stt B C W st s → wpEs Φ C.hnd.isSome es st Q X →
  (∀ W' st' s' l vs, W.le W' → Stt B C W' st' s' → VRs W' l vs → l.length = lenEs es → Q l st' → Q' vs s') → KX B C W X E' → wpAny (model prog B.w) A (spliced (backTo p (starEach (embs es) C.env))) Q' E' s
end

section
variable {prog : Program} {K : Frag} {τ : List (Addr × List Value)} {B : Bx} {Φ : Fn} {n : Nat} {G : Gx K τ B}

theorem tle {W W' : Wd} (h : ∀ t ∈ τ, t ∈ W.τ) (l : W.le W') : ∀ t ∈ τ, t ∈ W'.τ := fun t ht => l.τ t (h t ht)

theorem se_con (c : Const) (k : Nat) (p : Pos) : SEv prog τ B Φ n (.con c k p) := fun C lk gl A W st s Q X Q' E' Z ok hA hτ T h kv kx => by
  rw [wq1] at h
  rcases hv : constV c with _ | v
  · rw [hv] at h; exact h.elim
  rw [hv] at h
  have fin : ∀ {s' u}, Stt B C W st s' → VR W v u → Q' u s' := fun T' r => kv W st _ v _ (.refl W) T' r h
  cases c with
  | none => cases hv; exact PyProof.Rows.Constant_none (fin T .none)
  | bool b => cases hv; exact PyProof.Rows.Constant_bool (fin T (.bool _))
  | int i => cases hv; exact wpAny_Constant_int (fin T.tick (.int _ _))
  | str z =>
    have hz : z.length ≤ 1000 := of_decide_eq_true ok
    cases hv; exact wpAny_Constant_str (fin T.tick (.str _ _ (by omega)))
  | bytes z =>
    have hz : z.length ≤ 1000 := of_decide_eq_true ok
    cases hv; exact Constant_bytes (fin T.tick (.bytes _ _ (by omega)))
  | _ => exact non (show none = some v from hv)

theorem se_loc (x : Str) (i : Nat) (p : Pos) : SEv prog τ B Φ n (.loc x i p) := fun C lk gl A W st s Q X Q' E' Z ok hA hτ T h kv kx => by
  rw [wq2] at h
  rcases hv : st.loc[i]? with _ | _ | v
  · rw [hv] at h; exact h.elim
  · rw [hv] at h; exact h.elim
  rw [hv] at h
  exact load_loc Z T ok hv fun u r => kv W st s v u (.refl W) T r h

theorem conR_ok {W : Wd} (hτ : ∀ t ∈ τ, t ∈ W.τ) {a : AV} {v : Value} (h : ConR K τ a v) : VR W a v := by
  cases h with
  | int i t => exact .int i t
  | str s t h => exact .str s t (by omega)
  | bytes b t h => exact .bytes b t (by omega)
  | tup a l vs h r hz => exact .tup (hτ _ h) (r W) (by omega)

theorem se_glo (G : Gx K τ B) (x : Str) (k : Nat) (p : Pos) : SEv prog τ B Φ n (.glo x k p) := fun C lk gl A W st s Q X Q' E' Z ok hA hτ T h kv kx => by
  rw [wq3] at h
  rcases hq : gcon[k]? with _ | q
  · rw [hq] at h; exact h.elim
  rw [hq] at h
  simp only [oq3, Bool.and_eq_true, hq, Option.map_some, beq_iff_eq, Option.some.injEq] at ok
  obtain ⟨v, hv, hr⟩ := G.k.con k q hq
  rw [ok.2] at hv
  exact load_glob Z G T ok.1 hv (kv W st s _ v (.refl W) T (conR_ok hτ hr) h)

theorem se_bin {a b : E} {o : Operator} {p : Pos} (ha : SEv prog τ B Φ n a) (hb : SEv prog τ B Φ n b) : SEv prog τ B Φ n (.bin a o b p) := fun C lk gl A W st s Q X Q' E' Z ok hA hτ T h kv kx => by
  simp only [oq4, Bool.and_eq_true] at ok
  simp only [wq4] at h
  exact wpAny_BinOp (ha C lk gl A W st s _ _ _ _ Z ok.1 hA hτ T h (fun W₁ st₁ s₁ av v l₁ T₁ r₁ h₁ =>
    hb C lk gl A W₁ st₁ s₁ _ _ _ _ Z ok.2 hA (tle hτ l₁) T₁ h₁ (fun W₂ st₂ s₂ bv u l₂ T₂ r₂ h₂ => bin_ok T₂ (r₁.mono l₂) r₂ h₂ fun s₃ cv x T₃ r₃ h₃ => kv W₂ st₂ s₃ cv x (l₁.trans l₂) T₃ r₃ h₃) (kx.mono l₁)) kx)

theorem se_neg {a : E} {p : Pos} (ha : SEv prog τ B Φ n a) : SEv prog τ B Φ n (.neg a p) := fun C lk gl A W st s Q X Q' E' Z ok hA hτ T h kv kx => by
  simp only [oq5] at ok
  simp only [wq5] at h
  refine UnaryOp_ (ha C lk gl A W st s _ _ _ _ Z ok hA hτ T h (fun W₁ st₁ s₁ av v l₁ T₁ r₁ h₁ => ?_) kx)
  replace h₁ := isI_inv h₁; obtain ⟨i, rfl, h₁⟩ := h₁
  obtain ⟨_, rfl⟩ := VR.inv_i r₁
  exact neg_int (kv W₁ st₁ _ _ _ l₁ T₁.tick (.int _ _) h₁)

theorem se_not {a : E} {p : Pos} (ha : SEv prog τ B Φ n a) : SEv prog τ B Φ n (.nt a p) := fun C lk gl A W st s Q X Q' E' Z ok hA hτ T h kv kx => by
  simp only [oq6] at ok
  simp only [wq6] at h
  exact UnaryOp_ (ha C lk gl A W st s _ _ _ _ Z ok hA hτ T h (fun W₁ st₁ s₁ av v l₁ T₁ r₁ h₁ => not_of (truth_ok T₁ r₁ h₁ fun s₂ b T₂ h₂ => kv W₁ st₁ s₂ _ _ l₁ T₂ (.bool _) h₂)) kx)
theorem st_not {a : E} {p : Pos} (ha : SEt prog τ B Φ n a) : SEt prog τ B Φ n (.nt a p) := fun C lk gl A W st s Q X Q' E' Z ok hA hτ T h kv kx => by
  simp only [oq6] at ok
  simp only [wq6] at h
  exact isTrue_not (ha C lk gl A W st s _ _ _ _ Z ok hA hτ T h (fun W₁ st₁ s₁ b l₁ T₁ h₁ => kv W₁ st₁ s₁ _ l₁ T₁ h₁) kx)

theorem ifB_ok {b : Bool} {P Q : Prop} (h : ifB b P Q) {X Y : Prop} (hp : P → X) (hq : Q → Y) : if b = true then X else Y := by
  cases b with
  | true => exact hp h
  | false => exact hq h

theorem se_ife {t a b : E} {p : Pos} (ht : SEt prog τ B Φ n t) (ha : SEv prog τ B Φ n a) (hb : SEv prog τ B Φ n b) : SEv prog τ B Φ n (.ife t a b p) := fun C lk gl A W st s Q X Q' E' Z ok hA hτ T h kv kx => by
  simp only [oq7, Bool.and_eq_true] at ok
  simp only [wq7] at h
  exact IfExp_ (ht C lk gl A W st s _ _ _ _ Z ok.1.1 hA hτ T h (fun W₁ st₁ s₁ c l₁ T₁ h₁ => ifB_ok h₁
    (fun h₂ => ha C lk gl A W₁ st₁ s₁ _ _ _ _ Z ok.1.2 hA (tle hτ l₁) T₁ h₂ (fun _ _ _ _ _ l₂ => kv _ _ _ _ _ (l₁.trans l₂)) (kx.mono l₁))
    (fun h₂ => hb C lk gl A W₁ st₁ s₁ _ _ _ _ Z ok.2 hA (tle hτ l₁) T₁ h₂ (fun _ _ _ _ _ l₂ => kv _ _ _ _ _ (l₁.trans l₂)) (kx.mono l₁))) kx)
theorem st_ife {t a b : E} {p : Pos} (ht : SEt prog τ B Φ n t) (ha : SEt prog τ B Φ n a) (hb : SEt prog τ B Φ n b) : SEt prog τ B Φ n (.ife t a b p) := fun C lk gl A W st s Q X Q' E' Z ok hA hτ T h kv kx => by
  simp only [oq7, Bool.and_eq_true] at ok
  simp only [wq7] at h
  exact isTrue_IfExp (ht C lk gl A W st s _ _ _ _ Z ok.1.1 hA hτ T h (fun W₁ st₁ s₁ c l₁ T₁ h₁ => ifB_ok h₁
    (fun h₂ => ha C lk gl A W₁ st₁ s₁ _ _ _ _ Z ok.1.2 hA (tle hτ l₁) T₁ h₂ (fun _ _ _ _ l₂ => kv _ _ _ _ (l₁.trans l₂)) (kx.mono l₁))
    (fun h₂ => hb C lk gl A W₁ st₁ s₁ _ _ _ _ Z ok.2 hA (tle hτ l₁) T₁ h₂ (fun _ _ _ _ l₂ => kv _ _ _ _ (l₁.trans l₂)) (kx.mono l₁))) kx)

theorem se_and {a b : E} {p : Pos} (ha : SEv prog τ B Φ n a) (hb : SEv prog τ B Φ n b) : SEv prog τ B Φ n (.and a b p) := fun C lk gl A W st s Q X Q' E' Z ok hA hτ T h kv kx => by
  simp only [oq8, Bool.and_eq_true] at ok
  simp only [wq8] at h
  exact BoolOp_and (ha C lk gl A W st s _ _ _ _ Z ok.1 hA hτ T h (fun W₁ st₁ s₁ av v l₁ T₁ r₁ h₁ => truth_ok T₁ r₁ h₁ fun s₂ c T₂ h₂ => ifB_ok h₂
    (fun h₃ => BoolOp_one (hb C lk gl A W₁ st₁ s₂ _ _ _ _ Z ok.2 hA (tle hτ l₁) T₂ h₃ (fun _ _ _ _ _ l₂ => kv _ _ _ _ _ (l₁.trans l₂)) (kx.mono l₁)))
    (fun h₃ => kv W₁ st₁ s₂ _ _ l₁ T₂ r₁ h₃)) kx)
theorem se_or {a b : E} {p : Pos} (ha : SEv prog τ B Φ n a) (hb : SEv prog τ B Φ n b) : SEv prog τ B Φ n (.or a b p) := fun C lk gl A W st s Q X Q' E' Z ok hA hτ T h kv kx => by
  simp only [oq9, Bool.and_eq_true] at ok
  simp only [wq9] at h
  exact BoolOp_or (ha C lk gl A W st s _ _ _ _ Z ok.1 hA hτ T h (fun W₁ st₁ s₁ av v l₁ T₁ r₁ h₁ => truth_ok T₁ r₁ h₁ fun s₂ c T₂ h₂ => ifB_ok h₂
    (fun h₃ => kv W₁ st₁ s₂ _ _ l₁ T₂ r₁ h₃)
    (fun h₃ => BoolOp_one (hb C lk gl A W₁ st₁ s₂ _ _ _ _ Z ok.2 hA (tle hτ l₁) T₂ h₃ (fun _ _ _ _ _ l₂ => kv _ _ _ _ _ (l₁.trans l₂)) (kx.mono l₁)))) kx)
theorem st_and {a b : E} {p : Pos} (ha : SEt prog τ B Φ n a) (hb : SEt prog τ B Φ n b) : SEt prog τ B Φ n (.and a b p) := fun C lk gl A W st s Q X Q' E' Z ok hA hτ T h kv kx => by
  simp only [oq8, Bool.and_eq_true] at ok
  simp only [wq8] at h
  refine isTrue_and (ha C lk gl A W st s _ _ _ _ Z ok.1 hA hτ T h (fun W₁ st₁ s₁ c l₁ T₁ h₁ => ifB_ok h₁ (fun h₂ => isTrue_and ?_) (fun h₂ => kv W₁ st₁ s₁ _ l₁ T₁ h₂)) kx)
  exact hb C lk gl A W₁ st₁ s₁ _ _ _ _ Z ok.2 hA (tle hτ l₁) T₁ h₂ (fun W₂ st₂ s₂ c l₂ T₂ h₃ => by
    cases c with
    | true => exact isTrue_and_nil (kv W₂ st₂ s₂ _ (l₁.trans l₂) T₂ h₃)
    | false => exact kv W₂ st₂ s₂ _ (l₁.trans l₂) T₂ h₃) (kx.mono l₁)
theorem st_or {a b : E} {p : Pos} (ha : SEt prog τ B Φ n a) (hb : SEt prog τ B Φ n b) : SEt prog τ B Φ n (.or a b p) := fun C lk gl A W st s Q X Q' E' Z ok hA hτ T h kv kx => by
  simp only [oq9, Bool.and_eq_true] at ok
  simp only [wq9] at h
  refine isTrue_or (ha C lk gl A W st s _ _ _ _ Z ok.1 hA hτ T h (fun W₁ st₁ s₁ c l₁ T₁ h₁ => ifB_ok h₁ (fun h₂ => kv W₁ st₁ s₁ _ l₁ T₁ h₂) (fun h₂ => isTrue_or ?_)) kx)
  exact hb C lk gl A W₁ st₁ s₁ _ _ _ _ Z ok.2 hA (tle hτ l₁) T₁ h₂ (fun W₂ st₂ s₂ c l₂ T₂ h₃ => by
    cases c with
    | true => exact kv W₂ st₂ s₂ _ (l₁.trans l₂) T₂ h₃
    | false => exact isTrue_or_nil (kv W₂ st₂ s₂ _ (l₁.trans l₂) T₂ h₃)) (kx.mono l₁)
theorem st_or3 {a b d : E} {p : Pos} (ha : SEt prog τ B Φ n a) (hb : SEt prog τ B Φ n b) (hd : SEt prog τ B Φ n d) : SEt prog τ B Φ n (.or3 a b d p) := fun C lk gl A W st s Q X Q' E' Z ok hA hτ T h kv kx => by
  simp only [oq10, Bool.and_eq_true] at ok
  simp only [wq10] at h
  refine isTrue_or (ha C lk gl A W st s _ _ _ _ Z ok.1.1 hA hτ T h.2 (fun W₁ st₁ s₁ c l₁ T₁ h₁ => ifB_ok h₁ (fun h₂ => kv W₁ st₁ s₁ _ l₁ T₁ h₂) (fun h₂ => isTrue_or ?_)) kx)
  refine hb C lk gl A W₁ st₁ s₁ _ _ _ _ Z ok.1.2 hA (tle hτ l₁) T₁ h₂ (fun W₂ st₂ s₂ c l₂ T₂ h₃ => ifB_ok h₃ (fun h₄ => kv W₂ st₂ s₂ _ (l₁.trans l₂) T₂ h₄) (fun h₄ => isTrue_or ?_)) (kx.mono l₁)
  exact hd C lk gl A W₂ st₂ s₂ _ _ _ _ Z ok.2 hA (tle hτ (l₁.trans l₂)) T₂ h₄ (fun W₃ st₃ s₃ c l₃ T₃ h₅ => by
    cases c with
    | true => exact kv W₃ st₃ s₃ _ ((l₁.trans l₂).trans l₃) T₃ h₅
    | false => exact isTrue_or_nil (kv W₃ st₃ s₃ _ ((l₁.trans l₂).trans l₃) T₃ h₅)) (kx.mono (l₁.trans l₂))

theorem isNone_ok {W : Wd} {a : AV} {va : Value} (ha : VR W a va) : (va == Value.none) = isNone a := by cases ha <;> rfl
theorem cmp_ok {C : Cx} {A : Around} {W : Wd} {st : St} {s : Shared} {Q' E' : Value → Shared → Prop} (G : Gx K τ B) (T : Stt B C W st s) (hA : AOk C A n) {o : CmpOp} {a b : AV} {va vb : Value} (ha : VR W a va) (hb : VR W b vb) {P : Bool → Prop} (h : cmpQ o a b st.hp P) (k : KQ B C W st P Q') :
    wpAny (model prog B.w) A (compareOp o va vb) Q' E' s := by
  cases o with
  | Eq => exact eq_ok (neg := false) T hA ha hb (by simp only [Bool.false_bne]; exact h) k
  | NotEq => exact eq_ok (neg := true) T hA ha hb (by simp only [Bool.true_bne]; exact h) k
  | In => exact in_ok (neg := false) T G.mods ha hb (by simp only [Bool.false_bne]; exact h) k
  | NotIn => exact in_ok (neg := true) T G.mods ha hb (by simp only [Bool.true_bne]; exact h) k
  | Lt => obtain ⟨x, _, y, _, rfl, rfl, h⟩ := ints2 ha hb (R := fun x y => P (decide (x < y))) h; exact lt_int (k _ _ T h)
  | LtE => obtain ⟨x, _, y, _, rfl, rfl, h⟩ := ints2 ha hb (R := fun x y => P (decide (x ≤ y))) h; exact le_int (k _ _ T h)
  | Gt => obtain ⟨x, _, y, _, rfl, rfl, h⟩ := ints2 ha hb (R := fun x y => P (decide (y < x))) h; exact gt_int (k _ _ T h)
  | GtE => obtain ⟨x, _, y, _, rfl, rfl, h⟩ := ints2 ha hb (R := fun x y => P (decide (y ≤ x))) h; exact ge_int (k _ _ T h)
  | Is =>
    replace h := isN_inv h; obtain ⟨rfl, h⟩ := h
    obtain rfl := VR.inv_n hb
    exact is_none (by rw [isNone_ok ha]; exact k _ _ T h)
  | IsNot =>
    replace h := isN_inv h; obtain ⟨rfl, h⟩ := h
    obtain rfl := VR.inv_n hb
    exact isNot_none (by rw [isNone_ok ha]; exact k _ _ T h)

theorem marks_ok {o : CmpOp} {b : E} (h : isRaw b = false) : behindInMarks o (emb b) = false := by
  cases b <;> first | rfl | cases h

theorem se_cmp (G : Gx K τ B) {a b : E} {o : CmpOp} {p : Pos} (ha : SEv prog τ B Φ n a) (hb : SEv prog τ B Φ n b) : SEv prog τ B Φ n (.cmp a o b p) := fun C lk gl A W st s Q X Q' E' Z ok hA hτ T h kv kx => by
  simp only [oq11, Bool.and_eq_true, Bool.not_eq_true'] at ok
  simp only [wq11] at h
  exact wpAny_Compare1 (ha C lk gl A W st s _ _ _ _ Z ok.1.1 hA hτ T h (fun W₁ st₁ s₁ av v l₁ T₁ r₁ h₁ =>
    hb C lk gl A W₁ st₁ s₁ _ _ _ _ Z ok.1.2 hA (tle hτ l₁) T₁ h₁ (fun W₂ st₂ s₂ bv u l₂ T₂ r₂ h₂ => cmp_ok G T₂ hA (r₁.mono l₂) r₂ h₂ fun s₃ c T₃ h₃ => kv W₂ st₂ s₃ _ _ (l₁.trans l₂) T₃ (.bool _) h₃) (kx.mono l₁)) kx) (marks_ok ok.2)
theorem st_cmp (G : Gx K τ B) {a b : E} {o : CmpOp} {p : Pos} (ha : SEv prog τ B Φ n a) (hb : SEv prog τ B Φ n b) : SEt prog τ B Φ n (.cmp a o b p) := fun C lk gl A W st s Q X Q' E' Z ok hA hτ T h kv kx => by
  simp only [oq11, Bool.and_eq_true, Bool.not_eq_true'] at ok
  simp only [wq11] at h
  exact wpAny_isTrue_Compare1 (ha C lk gl A W st s _ _ _ _ Z ok.1.1 hA hτ T h (fun W₁ st₁ s₁ av v l₁ T₁ r₁ h₁ =>
    hb C lk gl A W₁ st₁ s₁ _ _ _ _ Z ok.1.2 hA (tle hτ l₁) T₁ h₁ (fun W₂ st₂ s₂ bv u l₂ T₂ r₂ h₂ => cmp_ok G T₂ hA (r₁.mono l₂) r₂ h₂ fun s₃ c T₃ h₃ => wpAny_truthy_bool (kv W₂ st₂ s₃ _ (l₁.trans l₂) T₃ h₃)) (kx.mono l₁)) kx) (marks_ok ok.2)
end
end Mine
end

noncomputable section
open PySem PySem.W PyProof.Rows PySem.Calls PySem.Spec PySem.SeqAt PySem.Builtin
set_option maxRecDepth 100000
namespace Mine

section
variable {prog : Program} {K : Frag} {τ : List (Addr × List Value)} {B : Bx} {Φ : Fn} {n : Nat} {G : Gx K τ B}

theorem st_of {e : E} (hv : SEv prog τ B Φ n e) (he : ∀ env, isTrue (emb e) env (eval (emb e) env) = (do let v ← eval (emb e) env; standAt (emb e).pos; holding [v] (truthy v)))
    (hw : ∀ hd st Q X, wp Φ hd true e st Q X → wp Φ hd false e st (finQ true Q) X) : SEt prog τ B Φ n e := fun C lk gl A W st s Q X Q' E' Z ok hA hτ T h kv kx => by
  refine isTrue_plain (hv C lk gl A W st s _ _ _ _ Z ok hA hτ T (hw _ _ _ _ h) (fun W₁ st₁ s₁ av v l₁ T₁ r₁ h₁ => ?_) kx) (he _)
  exact truth_ok T₁ r₁ h₁ fun s₂ b T₂ h₂ => kv W₁ st₁ s₂ b l₁ T₂ h₂

theorem marks2 {o₁ o₂ : CmpOp} {b c : E} (hc : isRaw c = false) : lastMarks [o₁, o₂] [emb b, emb c] = false := by
  have h2 : behindInMarks o₂ (emb c) = false := marks_ok hc
  simpa [lastMarks] using h2

theorem se_cmp2 (G : Gx K τ B) {a b c : E} {o₁ o₂ : CmpOp} {p : Pos} (ha : SEv prog τ B Φ n a) (hb : SEv prog τ B Φ n b) (hc : SEv prog τ B Φ n c) : SEv prog τ B Φ n (.cmp2 a o₁ b o₂ c p) := fun C lk gl A W st s Q X Q' E' Z ok hA hτ T h kv kx => by
  simp only [oq12, Bool.and_eq_true, Bool.not_eq_true'] at ok
  obtain ⟨⟨⟨⟨oa, ob⟩, oc⟩, rb⟩, rc⟩ := ok
  simp only [wq12] at h
  refine Compare_chain (ha C lk gl A W st s _ _ _ _ Z oa hA hτ T h (fun W₁ st₁ s₁ av v l₁ T₁ r₁ h₁ => chain_link
    (hb C lk gl A W₁ st₁ s₁ _ _ _ _ Z ob hA (tle hτ l₁) T₁ h₁ (fun W₂ st₂ s₂ bv u l₂ T₂ r₂ h₂ => cmp_ok G T₂ hA (r₁.mono l₂) r₂ h₂ fun s₃ t T₃ h₃ => wpAny_truthy_bool ?_) (kx.mono l₁))) kx) (marks2 rc)
  cases t with
  | true => exact chain_last (hc C lk gl A W₂ st₂ s₃ _ _ _ _ Z oc hA (tle hτ (l₁.trans l₂)) T₃ h₃ (fun W₄ st₄ s₄ cv x l₄ T₄ r₄ h₅ => cmp_ok G T₄ hA (r₂.mono l₄) r₄ h₅ fun s₅ t' T₅ h₆ => kv W₄ st₄ s₅ _ _ ((l₁.trans l₂).trans l₄) T₅ (.bool _) h₆) (kx.mono (l₁.trans l₂)))
  | false => exact kv W₂ st₂ s₃ _ _ (l₁.trans l₂) T₃ (.bool _) h₃
theorem st_cmp2 (G : Gx K τ B) {a b c : E} {o₁ o₂ : CmpOp} {p : Pos} (ha : SEv prog τ B Φ n a) (hb : SEv prog τ B Φ n b) (hc : SEv prog τ B Φ n c) : SEt prog τ B Φ n (.cmp2 a o₁ b o₂ c p) := fun C lk gl A W st s Q X Q' E' Z ok hA hτ T h kv kx => by
  simp only [oq12, Bool.and_eq_true, Bool.not_eq_true'] at ok
  obtain ⟨⟨⟨⟨oa, ob⟩, oc⟩, rb⟩, rc⟩ := ok
  simp only [wq12] at h
  refine isTrue_chain (ha C lk gl A W st s _ _ _ _ Z oa hA hτ T h (fun W₁ st₁ s₁ av v l₁ T₁ r₁ h₁ => test_link
    (hb C lk gl A W₁ st₁ s₁ _ _ _ _ Z ob hA (tle hτ l₁) T₁ h₁ (fun W₂ st₂ s₂ bv u l₂ T₂ r₂ h₂ => cmp_ok G T₂ hA (r₁.mono l₂) r₂ h₂ fun s₃ t T₃ h₃ => wpAny_truthy_bool ?_) (kx.mono l₁))) kx) (marks2 rc)
  cases t with
  | true => exact test_last (hc C lk gl A W₂ st₂ s₃ _ _ _ _ Z oc hA (tle hτ (l₁.trans l₂)) T₃ h₃ (fun W₄ st₄ s₄ cv x l₄ T₄ r₄ h₅ => cmp_ok G T₄ hA (r₂.mono l₄) r₄ h₅ fun s₅ t' T₅ h₆ => wpAny_truthy_bool (kv W₄ st₄ s₅ _ ((l₁.trans l₂).trans l₄) T₅ h₆)) (kx.mono (l₁.trans l₂)))
  | false => exact kv W₂ st₂ s₃ _ (l₁.trans l₂) T₃ h₃

theorem ses_nil : SEs prog τ B Φ n .nil := fun C lk gl A W st s Q X Q' E' p Z ok hA hτ T h kv kx => by
  simp only [wqs0, wqs1] at h
  exact wpAny_items_nil (kv W st s _ _ (.refl W) T .nil rfl h)
theorem star_ok {e : E} (h : isRaw e = false) (rest : List PySem.Expr) (env : Env) : starEach (emb e :: rest) env = (false, eval (emb e) env) :: starEach rest env := by
  cases e <;> first | rfl | cases h
theorem ses_cons {e : E} {r : Es} (he : SEv prog τ B Φ n e) (hr : SEs prog τ B Φ n r) : SEs prog τ B Φ n (.cons e r) := fun C lk gl A W st s Q X Q' E' p Z ok hA hτ T h kv kx => by
  simp only [oqs0, oqs1, Bool.and_eq_true, Bool.not_eq_true'] at ok
  simp only [wqs0, wqs1] at h
  exact wpAny_items_cons (he C lk gl A W st s _ _ _ _ Z ok.1.1 hA hτ T h (fun W₁ st₁ s₁ av v l₁ T₁ r₁ h₁ =>
    hr C lk gl A W₁ st₁ s₁ _ _ _ _ _ Z ok.2 hA (tle hτ l₁) T₁ h₁ (fun W₂ st₂ s₂ l vs l₂ T₂ r₂ e₂ h₂ => kv W₂ st₂ s₂ _ _ (l₁.trans l₂) T₂ (.cons (r₁.mono l₂) r₂) (congrArg (· + 1) e₂) h₂) (kx.mono l₁)) kx) (star_ok ok.1.2 _ _)

theorem new_tup {C : Cx} {W : Wd} {st : St} {s : Shared} (T : Stt B C W st s) {l : List AV} {vs : List Value} (r : VRs W l vs) (hz : l.length ≤ 16777216) :
    ∃ W', W.le W' ∧ Stt B C W' st { s with heap := s.heap.push { cls := .type "tuple", data := .seq vs.toArray } } ∧ VR W' (.tup l) (.ref s.heap.objs.size) := by
  have ht : IsTup (s.heap.push { cls := .type "tuple", data := .seq vs.toArray }) s.heap.objs.size vs.toArray := ⟨_, Heap.get?_push_size _ rfl, rfl, 0, rfl⟩
  have T₁ := (T.push { cls := .type "tuple", data := .seq vs.toArray } (tk := s.toks)).addTup ht
  refine ⟨_, ⟨⟨[], by simp⟩, fun _ h => .tail _ h⟩, T₁, .tup (.head _) (r.mono ⟨⟨[], by simp⟩, fun _ h => .tail _ h⟩) hz⟩
theorem new_lst {C : Cx} {W : Wd} {st : St} {s : Shared} (T : Stt B C W st s) {l : List AV} {vs : List Value} (r : VRs W l vs) (hz : l.length ≤ 16777216) :
    ∃ W', W.le W' ∧ Stt B C W' ⟨st.loc, st.hp ++ [.list l]⟩ { s with heap := s.heap.push { cls := .type "list", data := .seq vs.toArray } } ∧ VR W' (.obj st.hp.length) (.ref s.heap.objs.size) := by
  have le : W.le ⟨W.ρ ++ [[s.heap.objs.size]], W.τ⟩ := ⟨⟨_, rfl⟩, fun _ h => h⟩
  refine ⟨⟨W.ρ ++ [[s.heap.objs.size]], W.τ⟩, le, T.addObj (fun b o e => Heap.get?_push_of_some _ e) (by simp) (by simp) ⟨_, vs, rfl, ⟨_, Heap.get?_push_size _ rfl, rfl, rfl, 0, rfl⟩, r.mono le, hz⟩, .obj (r := []) ?_⟩
  rw [← T.objs.len]; simp
end
end Mine
end

noncomputable section
open PySem PySem.W PyProof.Rows PySem.Calls PySem.Spec PySem.SeqAt PySem.Builtin
set_option maxRecDepth 100000
namespace Mine

section
variable {prog : Program} {K : Frag} {τ : List (Addr × List Value)} {B : Bx} {Φ : Fn} {n : Nat} {G : Gx K τ B}

theorem se_tup {es : Es} {k : Nat} {p : Pos} (he : SEs prog τ B Φ n es) : SEv prog τ B Φ n (.tup es k p) := fun C lk gl A W st s Q X Q' E' Z ok hA hτ T h kv kx => by
  simp only [oq13, Bool.and_eq_true, decide_eq_true_eq] at ok
  simp only [wq13] at h
  refine wpAny_Tuple (he C lk gl A W st s _ _ _ _ _ Z ok.1 hA hτ T h.2 (fun W₁ st₁ s₁ l vs l₁ T₁ r₁ e₁ h₁ => ?_) kx)
  have hz : l.length ≤ 16777216 := by omega
  obtain ⟨W₂, l₂, T₂, r₂⟩ := new_tup T₁ r₁ hz
  exact ⟨by rw [r₁.length, sizeLine_eq]; exact hz, kv W₂ _ _ _ _ (l₁.trans l₂) T₂ r₂ h₁⟩
theorem se_lst {es : Es} {p : Pos} (he : SEs prog τ B Φ n es) : SEv prog τ B Φ n (.lst es p) := fun C lk gl A W st s Q X Q' E' Z ok hA hτ T h kv kx => by
  simp only [oq14, Bool.and_eq_true, decide_eq_true_eq] at ok
  simp only [wq14] at h
  refine wpAny_List (he C lk gl A W st s _ _ _ _ _ Z ok.1 hA hτ T h (fun W₁ st₁ s₁ l vs l₁ T₁ r₁ e₁ h₁ => ?_) kx)
  have hz : l.length ≤ 16777216 := by omega
  obtain ⟨W₂, l₂, T₂, r₂⟩ := new_lst T₁ r₁ hz
  exact ⟨by rw [r₁.length, sizeLine_eq]; exact hz, kv W₂ _ _ _ _ (l₁.trans l₂) T₂ r₂ h₁⟩

theorem sub_ops {i : E} (h : isRaw i = false) (o v : Value) : subscripted (emb i) false o v = operate [o, v] (getItem o v) := by
  cases i <;> first | rfl | cases h

theorem item_road {C : Cx} {W : Wd} {st : St} {s : Shared} (T : Stt B C W st s) {a : AV} {v i : Value} (ha : VR W a v) {A : Around} {Q' E' : Value → Shared → Prop} {value slice : PySem.Expr} {ops : List Value}
    (hk : (∃ b, a = .bytes b) ∨ (∃ l, a = .tup l) ∨ (∃ j l, a = .obj j ∧ st.hp[j]? = some (.list l)) ∨ (∃ j d n, a = .obj j ∧ st.hp[j]? = some (.dict d n)))
    (hg : wpAny (model prog B.w) A (getItem v i) Q' E' s) (hs : subscripted slice false v i = operate ops (getItem v i)) : wpAny (model prog B.w) A (subscriptTail value slice v i) Q' E' s := by
  rcases hk with ⟨b, rfl⟩ | ⟨l, rfl⟩ | ⟨j, l, rfl, hl⟩ | ⟨j, d, n, rfl, hl⟩
  · obtain ⟨_, rfl, _⟩ := VR.inv_y ha; exact tail_any (typeIs_bytes _ _ _) FB.slot_bytes_getitem.lookup hg hs
  · obtain ⟨_, _, rfl, hm, r, hz⟩ := VR.inv_t ha
    · exact tail_any (T.tups _ hm).typeIs slot_tuple_getitem.lookup hg hs
  · obtain ⟨_, _, rfl, hj⟩ := VR.inv_o ha
    · obtain ⟨r, hr, a, vs, rfl, x, hvs, hz⟩ := T.objs.at_ _ _ hl
      have x := x.isList
      rw [hj] at hr; cases hr
      exact tail_any x.typeIs slot_list_getitem.lookup hg hs
  · obtain ⟨_, _, rfl, hj⟩ := VR.inv_o ha
    · obtain ⟨r, hr, a, es, rfl, ⟨o, ho, hx, hd⟩, -⟩ := T.objs.at_ _ _ hl
      rw [hj] at hr; cases hr
      exact tail_any (T := "dict") ⟨o, ho, hx.1⟩ slot_dict_getitem.lookup hg hs

theorem subQ_kind {a i : AV} {hp : Hp} {P : AV → Prop} (h : subQ a i hp P) : (∃ b, a = .bytes b) ∨ (∃ l, a = .tup l) ∨ (∃ j l, a = .obj j ∧ hp[j]? = some (.list l)) ∨ (∃ j d n, a = .obj j ∧ hp[j]? = some (.dict d n)) := by
  cases a with
  | bytes b => exact .inl ⟨_, rfl⟩
  | tup l => exact .inr (.inl ⟨_, rfl⟩)
  | obj j =>
    cases i with
    | int k => replace h := atL_inv h; obtain ⟨l, e, _⟩ := h; exact .inr (.inr (.inl ⟨_, _, rfl, e⟩))
    | str k => replace h := atD_inv h; obtain ⟨d, n, e, _⟩ := h; exact .inr (.inr (.inr ⟨_, _, _, rfl, e⟩))
    | _ => exact h.elim
  | _ => exact h.elim

theorem se_sub {a i : E} {p : Pos} (ha : SEv prog τ B Φ n a) (hi : SEv prog τ B Φ n i) : SEv prog τ B Φ n (.sub a i p) := fun C lk gl A W st s Q X Q' E' Z ok hA hτ T h kv kx => by
  simp only [oq17, Bool.and_eq_true, Bool.not_eq_true'] at ok
  simp only [wq17] at h
  exact Subscript_ (ha C lk gl A W st s _ _ _ _ Z ok.1.1 hA hτ T h (fun W₁ st₁ s₁ av v l₁ T₁ r₁ h₁ =>
    hi C lk gl A W₁ st₁ s₁ _ _ _ _ Z ok.1.2 hA (tle hτ l₁) T₁ h₁ (fun W₂ st₂ s₂ bv u l₂ T₂ r₂ h₂ =>
      item_road T₂ (r₁.mono l₂) (subQ_kind h₂) (sub_ok T₂ (r₁.mono l₂) r₂ h₂ fun s₃ cv x T₃ r₃ h₃ => kv W₂ st₂ s₃ cv x (l₁.trans l₂) T₃ r₃ h₃) (sub_ops ok.2 _ _)) (kx.mono l₁)) kx)

theorem cut_bytes {b : List UInt8} {lo hi : Option Int} : KBy.picked b.toArray lo hi = (cutL b lo hi).toArray := by
  unfold KBy.picked Bytes.sliced
  rw [kms_bounds]
  simp only [sliceRange_one, pick_run]
  rfl
theorem cut_le {α : Type} (l : List α) (lo hi : Option Int) : (cutL l lo hi).length ≤ l.length := by
  unfold cutL cutL.kms_pick'
  rw [List.length_take, List.length_drop]; exact Nat.le_trans (Nat.min_le_right _ _) (Nat.sub_le _ _)
theorem VRs.cut {W : Wd} {l : List AV} {vs : List Value} (r : VRs W l vs) (lo hi : Option Int) : VRs W (cutL l lo hi) (kms_pick vs lo hi) := by
  unfold cutL cutL.kms_pick' kms_pick
  rw [r.length]
  exact (r.drop _).take _

theorem slc_ok {C : Cx} {W : Wd} {st : St} {s : Shared} {Q : QV} {A : Around} {Q' E' : Value → Shared → Prop} {value slice : PySem.Expr} (T : Stt B C W st s) {a : AV} {v l u : Value} {lo hi : Option Int} (ha : VR W a v)
    (pl : IsPart l lo) (pu : IsPart u hi) (h : slcQ a lo hi st Q) (kv : KV B C W Q Q') (hs : ∀ o i, subscripted slice false o i = operate [i, o] (getItem o i)) :
    wpAny (model prog B.w) A (subscriptTail value slice v (.ref s.heap.objs.size)) Q' E' { s with heap := s.heap.push { cls := .type "slice", data := .fields #[l, u, .none] } } := by
  have T₁ : Stt B C W st { s with heap := s.heap.push { cls := .type "slice", data := .fields #[l, u, .none] } } := T.push _
  cases a with
  | bytes b =>
    obtain ⟨t, rfl, hz⟩ := VR.inv_y ha
    refine item_road T₁ (.bytes _ t hz) (.inl ⟨_, rfl⟩) ?_ (hs _ _)
    refine getItem_meets (typeIs_bytes _ _ _) (by decide) FB.slot_bytes_getitem FB.entry_bytes_getitem (FB.args_bytes_getitem_2 _ _) (KBc.meets_slice2 b.toArray t _ pl pu) ⟨Heap.IsSliceOf.new _ _ _ _, ?_, fun t' k => ?_⟩
    · rw [cut_bytes, sizeLine_eq, List.size_toArray]; exact Nat.le_trans (cut_le b lo hi) hz
    · rw [cut_bytes]
      exact kv W _ _ _ _ (.refl W) T₁.tick (.bytes _ _ (Nat.le_trans (cut_le b lo hi) hz)) h
  | obj j =>
    replace h := atL_inv h; obtain ⟨its, hl, h⟩ := h
    obtain ⟨_, _, rfl, hj⟩ := VR.inv_o ha
    obtain ⟨r, hr, a, vs, rfl, x, hvs, hz⟩ := T₁.objs.at_ _ _ hl
    have x := x.isList
    rw [hj] at hr; cases hr
    have hcut : (cutL its lo hi).length ≤ 16777216 := Nat.le_trans (cut_le its lo hi) hz
    obtain ⟨W₂, l₂, T₂, r₂⟩ := new_lst T₁ (hvs.cut lo hi) hcut
    refine item_road T₁ (.obj hj) (.inr (.inr (.inl ⟨_, _, rfl, hl⟩))) ?_ (hs _ _)
    refine wpAny_getItem_list_slice x (Heap.IsSliceOf.new ..) pl pu .none (by simp) ?_ (by rw [sizeLine_eq, List.size_toArray, hvs.length]; exact hz)
    rw [kms_pick_eq]
    exact kv W₂ _ _ _ _ l₂ T₂ r₂ h
  | _ => exact h.elim

theorem isI_ok {W : Wd} {a : AV} {v : Value} (r : VR W a v) {P : Int → Prop} (h : isI a P) : ∃ i t, v = .int i t ∧ P i := by
  replace h := isI_inv h; obtain ⟨i, rfl, h⟩ := h
  obtain ⟨t, rfl⟩ := VR.inv_i r
  exact ⟨_, _, rfl, h⟩

theorem se_slLU {a l u : E} {ps p : Pos} (ha : SEv prog τ B Φ n a) (hl : SEv prog τ B Φ n l) (hu : SEv prog τ B Φ n u) : SEv prog τ B Φ n (.slLU a l u ps p) := fun C lk gl A W st s Q X Q' E' Z ok hA hτ T h kv kx => by
  simp only [oq18, Bool.and_eq_true] at ok
  simp only [wq18] at h
  exact Subscript_ (ha C lk gl A W st s _ _ _ _ Z ok.1.1 hA hτ T h (fun W₁ st₁ s₁ av v l₁ T₁ r₁ h₁ => wpAny_Slice (evalPart_some_step
    (hl C lk gl A W₁ st₁ s₁ _ _ _ _ Z ok.1.2 hA (tle hτ l₁) T₁ h₁ (fun W₂ st₂ s₂ bv x l₂ T₂ r₂ h₂ => evalPart_some_step
      (hu C lk gl A W₂ st₂ s₂ _ _ _ _ Z ok.2 hA (tle hτ (l₁.trans l₂)) T₂ h₂ (fun W₃ st₃ s₃ cv y l₃ T₃ r₃ h₃ => by
        obtain ⟨i, t, rfl, h₃⟩ := isI_ok r₂ h₃
        obtain ⟨j, t', rfl, h₃⟩ := isI_ok r₃ h₃
        exact evalPart_none_step (slc_ok T₃ ((r₁.mono l₂).mono l₃) (.int i t) (.int j t') h₃ (fun _ _ _ _ _ l₄ => kv _ _ _ _ _ (((l₁.trans l₂).trans l₃).trans l₄)) fun _ _ => rfl)) (kx.mono (l₁.trans l₂)))) (kx.mono l₁)))) kx)
theorem se_slL {a l : E} {ps p : Pos} (ha : SEv prog τ B Φ n a) (hl : SEv prog τ B Φ n l) : SEv prog τ B Φ n (.slL a l ps p) := fun C lk gl A W st s Q X Q' E' Z ok hA hτ T h kv kx => by
  simp only [oq19, Bool.and_eq_true] at ok
  simp only [wq19] at h
  exact Subscript_ (ha C lk gl A W st s _ _ _ _ Z ok.1 hA hτ T h (fun W₁ st₁ s₁ av v l₁ T₁ r₁ h₁ => wpAny_Slice (evalPart_some_step
    (hl C lk gl A W₁ st₁ s₁ _ _ _ _ Z ok.2 hA (tle hτ l₁) T₁ h₁ (fun W₂ st₂ s₂ bv x l₂ T₂ r₂ h₂ => by
        obtain ⟨i, t, rfl, h₂⟩ := isI_ok r₂ h₂
        exact evalPart_none_step (evalPart_none_step (slc_ok T₂ (r₁.mono l₂) (.int i t) .none h₂ (fun _ _ _ _ _ l₄ => kv _ _ _ _ _ ((l₁.trans l₂).trans l₄)) fun _ _ => rfl))) (kx.mono l₁)))) kx)
theorem se_slU {a l : E} {ps p : Pos} (ha : SEv prog τ B Φ n a) (hl : SEv prog τ B Φ n l) : SEv prog τ B Φ n (.slU a l ps p) := fun C lk gl A W st s Q X Q' E' Z ok hA hτ T h kv kx => by
  simp only [oq20, Bool.and_eq_true] at ok
  simp only [wq20] at h
  exact Subscript_ (ha C lk gl A W st s _ _ _ _ Z ok.1 hA hτ T h (fun W₁ st₁ s₁ av v l₁ T₁ r₁ h₁ => wpAny_Slice (evalPart_none_step (evalPart_some_step
    (hl C lk gl A W₁ st₁ s₁ _ _ _ _ Z ok.2 hA (tle hτ l₁) T₁ h₁ (fun W₂ st₂ s₂ bv x l₂ T₂ r₂ h₂ => by
        obtain ⟨i, t, rfl, h₂⟩ := isI_ok r₂ h₂
        exact evalPart_none_step (slc_ok T₂ (r₁.mono l₂) .none (.int i t) h₂ (fun _ _ _ _ _ l₄ => kv _ _ _ _ _ ((l₁.trans l₂).trans l₄)) fun _ _ => rfl)) (kx.mono l₁))))) kx)
end
end Mine
end

noncomputable section
open PySem PySem.W PyProof.Rows PySem.Calls PySem.Spec PySem.SeqAt PySem.Builtin
set_option maxRecDepth 100000
namespace Mine

section
variable (prog : Program) (τ : List (Addr × List Value)) (B : Bx) (Φ : Fn) (n : Nat)
noncomputable def FnOk : Prop := ∀ (C : Cx) (A : Around) (W : Wd) (st : St) (s : Shared) (f : Nat) (avs : List AV) (vs : List Value) (Q : AV → Hp → Prop) (X : Nat → Hp → Prop) (Q' E' : Value → Shared → Prop),
  (∃ lk gl, CxOk B C lk gl) → AOk C A n → (∀ t ∈ τ, t ∈ W.τ) → Stt B C W st s → VRs W avs vs → Φ C.hnd.isSome f avs st.hp Q X →
  (∀ W' hp' s' av v, W.le W' → Stt B C W' ⟨st.loc, hp'⟩ s' → VR W' av v → Q av hp' → Q' v s') →
  (∀ W' hp' s' c e, W.le W' → Stt B C W' ⟨st.loc, hp'⟩ s' → XOk B C c e s' → X c hp' → E' (.ref e) s') → wpAny (model prog B.w) A (call (.ref f) vs) Q' E' s
end

section
variable {prog : Program} {K : Frag} {τ : List (Addr × List Value)} {B : Bx} {Φ : Fn} {n : Nat}

theorem anm_inj {k n : Nat} (hk : k < 6) (hn : n < 6) (e : anm k = anm n) : k = n := by
  have h : ∀ k : Fin 6, ∀ n : Fin 6, anm k = anm n → k = n := by decide +kernel
  exact congrArg Fin.val (h ⟨k, hk⟩ ⟨n, hn⟩ e)
theorem anm_apart {k c n f : Nat} (hk : k < 6) (h : meths c n = some f) : anm k ≠ anm n := by
  have h1 : ∀ k : Fin 6, ∀ n : Fin 9, anm k ≠ anm (n + 10) := by decide +kernel
  have hn : 10 ≤ n ∧ n < 19 := (by decide : ∀ q ∈ methT, 10 ≤ q.2.1 ∧ q.2.1 < 19) _ (meths_in h)
  have := h1 ⟨k, hk⟩ ⟨n - 10, by omega⟩
  have e : n - 10 + 10 = n := by omega
  simpa [e] using this
set_option tactic.hygienic true in
theorem fr_lt {P : Params} {W : Wd} {l : List (Nat × AV)} {es : List DictEntry} (r : FR P W l es) {k : Nat} {a : AV} (h : l.lookup k = some a) : k < 6 := by
  induction r with
  | nil => cases h
  | cons hk hv r ih =>
    rename_i k' t a' v d es
    rw [List.lookup_cons] at h
    by_cases e : k = k'
    · subst e; exact hk
    · rw [beq_eq_false_iff_ne.mpr e] at h; exact ih h
set_option tactic.hygienic true in
theorem fr_find {P : Params} {W : Wd} {l : List (Nat × AV)} {es : List DictEntry} (r : FR P W l es) {k : Nat} (hk : k < 6) {a : AV} (h : l.lookup k = some a) : ∃ e, es.find? (fun e => e.key.isStr (anm k)) = some e ∧ VR W a e.val := by
  induction r with
  | nil => cases h
  | cons hk' hv r ih =>
    rename_i k' t a' v d es
    rw [List.lookup_cons] at h
    rw [List.find?_cons]
    by_cases e : k = k'
    · subst e
      rw [beq_self_eq_true] at h
      cases h
      have e1 : Value.isStr (.str (anm k) t) (anm k) = true := by simp [Value.isStr]
      rw [e1]
      exact ⟨_, rfl, hv⟩
    · rw [beq_eq_false_iff_ne.mpr e] at h
      have e1 : Value.isStr (.str (anm k') t) (anm k) = false := by
        simp only [Value.isStr]
        exact beq_eq_false_iff_ne.mpr fun q => e (anm_inj hk hk' q.symm)
      rw [e1]
      exact ih h
set_option tactic.hygienic true in
theorem fr_none {P : Params} {W : Wd} {l : List (Nat × AV)} {es : List DictEntry} (r : FR P W l es) {x : Str} (h : ∀ k < 6, anm k ≠ x) : es.find? (fun e => e.key.isStr x) = none ∧ es.any (·.refKey) = false := by
  induction r with
  | nil => exact ⟨rfl, rfl⟩
  | cons hk hv r ih =>
    rename_i k' t a' v d es
    have e1 : Value.isStr (.str (anm k') t) x = false := by
      simp only [Value.isStr]
      exact beq_eq_false_iff_ne.mpr (h k' hk)
    rw [List.find?_cons, e1, List.any_cons]
    exact ⟨ih.1, by rw [ih.2]; rfl⟩
theorem look_some {es : List DictEntry} {n : Nat} {o : Obj} (hd : o.data = .dict es.toArray n) {x : Str} {e : DictEntry} (h : es.find? (fun e => e.key.isStr x) = some e) : lookIn x o = some (some e.val) := by
  unfold lookIn; rw [hd]; simp only [h]
theorem look_none {es : List DictEntry} {n : Nat} {o : Obj} (hd : o.data = .dict es.toArray n) {x : Str} (h : es.find? (fun e => e.key.isStr x) = none) (h' : es.any (·.refKey) = false) : lookIn x o = some none := by
  unfold lookIn; rw [hd]; simp only [h]; rw [if_neg (by rw [h']; decide)]
theorem inst_at {h : Heap} {x c dx : Addr} {es : List DictEntry} (hi : InstIs h x c dx) (hn : NsAt h dx es) : ∃ ox od n, PySem.W.InstAt h x ox c (some od) ∧ od.data = .dict es.toArray n ∧ ox.dict = some dx := by
  obtain ⟨ox, hx, hc, hdx, hp⟩ := hi
  obtain ⟨od, n, ho, _, _, hd⟩ := hn
  exact ⟨ox, od, n, ⟨hx, hc, by unfold notCls; rw [hp], by rw [hdx]; exact ho⟩, hd, hdx⟩

theorem handed {W : Wd} {a : AV} {v : Value} (r : VR W a v) : handedIn v = true := by cases r <;> rfl

set_option tactic.hygienic true in
theorem base_ok {a : E} (h : noSup a = true) (x : Str) (env : Env) : attributeBase (emb a) x env (eval (emb a) env) = eval (emb a) env := by
  cases a <;> first | rfl | (cases h; done) | skip
  · rename_i f k px es p
    cases es with
    | nil => cases h
    | cons e r => rfl
  · rename_i f px es p
    cases es with
    | nil => cases h
    | cons e r => rfl

theorem att_ok {C : Cx} {A : Around} {W : Wd} {st : St} {s : Shared} {Q' E' : Value → Shared → Prop} {expr : Bool} (G : Gx K τ B) (T : Stt B C W st s) {k : Nat} {a : AV} {v : Value} (ha : VR W a v) {P : AV → Prop} (h : attQ a k st.hp P) (kp : KP B C W st P Q') :
    wpAny (model prog B.w) A (getAttr v (anm k) expr) Q' E' s := by
  replace h := isO_inv h; obtain ⟨j, rfl, h⟩ := h
  replace h := atI_inv h; obtain ⟨c, l, hl, av, hlk, h⟩ := h
  obtain ⟨_, _, rfl, hj⟩ := VR.inv_o ha
  obtain ⟨r, hr, x, dx, es, rfl, hi, hn, fr, _, hc⟩ := T.objs.at_ _ _ hl
  rw [hj] at hr; cases hr
  obtain ⟨ox, od, m, I, hd, -⟩ := inst_at hi hn
  have hk := fr_lt fr hlk
  obtain ⟨e, he, hr⟩ := fr_find fr hk hlk
  obtain ⟨c1, c2, c3, -⟩ := G.k.cls c hc
  exact get_value (G.X.keeps T.stays) I c1 (findObj_own c3 (G.k.natt c k hc hk) rfl (look_some hd he)) (handed hr) (kp _ _ _ T.tick hr h)

theorem se_att (G : Gx K τ B) {a : E} {k : Nat} {p : Pos} (ha : SEv prog τ B Φ n a) : SEv prog τ B Φ n (.att a k p) := fun C lk gl A W st s Q X Q' E' Z ok hA hτ T h kv kx => by
  simp only [oq21, Bool.and_eq_true] at ok
  simp only [wq21] at h
  refine Attribute_any_ (ha C lk gl A W st s _ _ _ _ Z ok.1 hA hτ T h (fun W₁ st₁ s₁ av v l₁ T₁ r₁ h₁ => att_ok G T₁ r₁ h₁ fun s₂ bv u T₂ r₂ h₂ => kv W₁ st₁ s₂ bv u l₁ T₂ r₂ h₂) kx) ?_
  show eval (.Attribute (emb a) (anm k) p) _ = _
  rw [arm_eval_Attribute, base_ok ok.2]

theorem stars_plain {lk : LK} {gl : Str → Bool} (env : Env) (p : Pos) : ∀ {es : Es}, okEs lk gl es = true → (backTo p (starEach (embs es) env)).any (·.1) = false
  | .nil, _ => rfl
  | .cons e r, h => by
    simp only [oqs0, oqs1, Bool.and_eq_true, Bool.not_eq_true'] at h
    show (backTo p (starEach (emb e :: embs r) env)).any (·.1) = false
    rw [star_ok h.1.2]
    exact stars_plain env p (es := r) h.2
theorem args_ok {M : Model} {A : Around} {E : Value → Shared → Prop} {s : Shared} {lk : LK} {gl : Str → Bool} {es : Es} (ok : okEs lk gl es = true) {f : Value} {p : Pos} {env : Env} {Q : Args → Shared → Prop}
    (h : wpAny M A (spliced (backTo p (starEach (embs es) env))) (fun vs s' => Q ⟨vs, []⟩ s') E s) : wpAny M A (evalArgs f true (backTo p (starEach (embs es) env)) []) Q E s := by
  cases es with
  | nil =>
    unfold evalArgs
    show wpAny M A (spliced _ >>= _) Q E s
    exact wpAny_bind (wpAny_mono h (fun vs s' h' => wpAny_holding (wpAny_bind (wpAny_pure (wpAny_bind (wpAny_pure (wpAny_pure h')))))) fun _ _ x => x)
  | cons e r =>
    simp only [oqs0, oqs1, Bool.and_eq_true, Bool.not_eq_true'] at ok
    revert h
    show wpAny M A (spliced (backTo p (starEach (emb e :: embs r) env))) _ E s → wpAny M A (evalArgs f true (backTo p (starEach (emb e :: embs r) env)) []) Q E s
    rw [star_ok ok.1.2]
    exact fun h => evalArgs_plain h

theorem gfn_is {x : Str} {f : Nat} (h : gfn.lookup x = some f) : fnIs f = true := by
  unfold fnIs
  have : gfn.any (fun q => q.2 == f) = true := by
    rw [List.any_eq_true]
    obtain ⟨l₁, l₂, e, _⟩ := List.lookup_eq_some_iff.mp h
    exact ⟨(x, f), by rw [e]; simp, by simp⟩
  rw [this]; rfl
theorem meth_is {c k f : Nat} (h : meths c k = some f) : fnIs f = true := (by decide : ∀ q ∈ methT, fnIs q.2.2 = true) _ (meths_in h)

theorem se_call (G : Gx K τ B) (F : FnOk prog τ B Φ n) {x : Str} {f : Nat} {px p : Pos} {es : Es} (he : SEs prog τ B Φ n es) : SEv prog τ B Φ n (.call x f px es p) := fun C lk gl A W st s Q X Q' E' Z ok hA hτ T h kv kx => by
  simp only [oq22, Bool.and_eq_true, beq_iff_eq] at ok
  simp only [wq22] at h
  refine Call_Name rfl (load_glob Z G T ok.1.1 (G.k.fns x f ok.1.2) ?_)
  refine callWith_of (P := fun h => K.In h) (by rw [stars_plain _ _ ok.2]; rfl) (keeps_K (G.k.keep f (gfn_is ok.1.2))) (args_ok ok.2 (he C lk gl A W st s _ _ _ _ _ Z ok.2 hA hτ T h (fun W₁ st₁ s₁ l vs l₁ T₁ r₁ e₁ h₁ => ⟨G.X.keeps T₁.stays, ?_⟩) kx))
  exact F C A W₁ st₁ s₁ f l vs _ _ _ _ ⟨lk, gl, Z⟩ hA (tle hτ l₁) T₁ r₁ h₁ (fun W₂ hp₂ s₂ av v l₂ T₂ r₂ h₂ => kv W₂ _ s₂ av v (l₁.trans l₂) T₂ r₂ h₂) (fun W₂ hp₂ s₂ c e l₂ T₂ x₂ h₂ => kx W₂ _ s₂ c e (l₁.trans l₂) T₂ x₂ h₂)

set_option tactic.hygienic true in
theorem form_ok {lk : LK} {gl : Str → Bool} {es : Es} (ok : okEs lk gl es = true) (hz : lenEs es < 25) (env : Env) (p : Pos) : methodCallForm ((embs es).length + ([] : List Keyword).length) (backTo p (starEach (embs es) env)) (backToKw p (keywordEach [] env)) = true := by
  have hl : ∀ es : Es, (embs es).length = lenEs es := fun es => by
    induction es using Es.rec (motive_1 := fun _ => True) <;> first | trivial | rfl | skip
    rename_i e r _ ih
    show (embs r).length + 1 = lenEs r + 1
    rw [ih]
  have h1 := stars_plain env p ok
  unfold methodCallForm
  rw [Bool.and_eq_true, Bool.and_eq_true]
  refine ⟨⟨?_, rfl⟩, ?_⟩
  · rw [List.all_eq_true]
    intro q hq
    rw [List.any_eq_false] at h1
    simpa using h1 q hq
  · have e0 : backToKw p (keywordEach [] env) = [] := rfl
    rw [hl, e0]
    simp; omega

theorem se_met (G : Gx K τ B) (F : FnOk prog τ B Φ n) {a : E} {k : Nat} {es : Es} {pa p : Pos} (ha : SEv prog τ B Φ n a) (he : SEs prog τ B Φ n es) : SEv prog τ B Φ n (.met a k es pa p) := fun C lk gl A W st s Q X Q' E' Z ok hA hτ T h kv kx => by
  simp only [oq23, Bool.and_eq_true, decide_eq_true_eq] at ok
  obtain ⟨⟨⟨⟨oa, oe⟩, os⟩, oz⟩, ol⟩ := ok
  simp only [wq23] at h
  show wpAny _ _ (eval (.Call (.Attribute (emb a) (anm k) pa) (embs es) [] p) _) _ _ _
  rw [arm_eval_Call, base_ok os]
  refine wpAny_bind (ha C lk gl A W st s _ _ _ _ Z oa hA hτ T h (fun W₁ st₁ s₁ av v l₁ T₁ r₁ h₁ => wpAny_bind (wpAny_standAt ?_)) kx)
  unfold methodCall
  rw [form_ok oe oz]
  replace h₁ := isO_inv h₁; obtain ⟨j, rfl, h₁⟩ := h₁
  replace h₁ := atI_inv h₁; obtain ⟨c, l, hl, hnl, h₁⟩ := h₁
  replace h₁ := onO_inv h₁; obtain ⟨f, hf, h₁⟩ := h₁
  obtain ⟨_, _, rfl, hj⟩ := VR.inv_o r₁
  obtain ⟨r, hr, x, dx, es', rfl, hi, hn, fr, _, hc⟩ := T₁.objs.at_ _ _ hl
  rw [hj] at hr; cases hr
  obtain ⟨ox, od, m, I, hd, -⟩ := inst_at hi hn
  obtain ⟨c1, c2, c3, -⟩ := G.k.cls c hc
  obtain ⟨m1, m2⟩ := G.k.meth c k f hf
  obtain ⟨n1, n2⟩ := fr_none fr fun i hi => anm_apart hi hf
  refine wpAny_bind (wpAny_holding (method_fn (G.X.keeps T₁.stays) I c1 c2 m1 m2 (by show (lookIn (anm k) od).map (·.isSome) = some false; rw [look_none hd n1 n2]; rfl) ?_))
  have hpos : methodCallPos true (emb a) C.env pa p = pure p := by unfold methodCallPos; simp [beq_iff_eq.mp ol]
  refine wpAny_bind (wpAny_of_eq hpos ?_)
  refine callWith_of (P := fun h => K.In h) (by rw [stars_plain _ _ oe]; rfl) (keeps_K (G.k.keep f (meth_is hf))) (args_ok oe (he C lk gl A W₁ st₁ s₁ _ _ _ _ _ Z oe hA (tle hτ l₁) T₁ h₁ (fun W₂ st₂ s₂ l vs l₂ T₂ r₂ e₂ h₂ => ⟨G.X.keeps T₂.stays, ?_⟩) (kx.mono l₁)))
  exact F C A W₂ st₂ s₂ f _ _ _ _ _ _ ⟨lk, gl, Z⟩ hA (tle hτ (l₁.trans l₂)) T₂ (.cons (.obj (l₂.at hj)) r₂) h₂ (fun W₃ hp₃ s₃ av v l₃ T₃ r₃ h₃ => kv W₃ _ s₃ av v ((l₁.trans l₂).trans l₃) T₃ r₃ h₃) (fun W₃ hp₃ s₃ c e l₃ T₃ x₃ h₃ => kx W₃ _ s₃ c e ((l₁.trans l₂).trans l₃) T₃ x₃ h₃)
end
end Mine
end

noncomputable section
open PySem PySem.W PyProof.Rows PySem.Calls PySem.Spec PySem.SeqAt PySem.Builtin
set_option maxRecDepth 100000
namespace Mine

section
variable {prog : Program} {w : World} {A : Around} {E : Value → Shared → Prop} {s : Shared}

theorem entry_unchain : entryFor table "proto.unchain" = some Builtin.«proto.unchain» := entryFor_of_tree (by kernel_rfl)
theorem plain_unchain : plainId "proto.unchain" = true := by decide +kernel

theorem raiseNew_any {α : Type} {e : Addr} {o : Obj} {vs : Array Value} {hnd : Option Addr} {Q : α → Shared → Prop} (hA : A.handled = hnd.map Value.ref) (ho : s.heap.get? e = some o) (hd : o.data = .fields vs) (hz : 2 < vs.size)
    (hh : HndAt s.heap hnd) (hne : hnd ≠ some e) (h : ∀ h' o', Heap.SameBut e s.heap h' → h'.get? e = some o' → o'.cls = o.cls → E (.ref e) { s with heap := h' }) : wpAny (model prog w) A (raiseNew (.ref e) : Sem α) Q E s := by
  unfold raiseNew
  refine wpAny_bind (wpAny_handled ?_)
  rw [hA]
  cases hnd with
  | none => exact wpAny_bind (wpAny_pure (wpAny_throw (h s.heap o (Heap.SameBut.refl _ _) ho rfl)))
  | some x =>
    obtain ⟨ox, xs, hx, hxd, hx2⟩ := hh
    have ne : x ≠ e := fun q => hne (by rw [q])
    have c : (Value.ref x != Value.ref e) = true := by
      rw [bne_iff_ne]; intro q; cases q; exact ne rfl
    dsimp only [Option.map]
    rw [if_pos c]
    refine wpAny_bind (wpAny_holding (wpAny_runValue (codeAny_builtin entry_unchain ?_)))
    refine wpAny_bind (wpAny_field hx hxd hx2 ?_)
    show wpAny _ _ (if (Value.none == Value.none) = true then _ else _) _ _ _
    refine wpAny_ite_true (decide_eq_true (by rfl)) ?_
    refine wpAny_pure ?_
    show wpAny _ _ (updateField e 2 (.ref x) >>= _) _ _ s
    unfold updateField
    refine wpAny_bind (wpAny_bind (wpAny_load ho ?_))
    rw [hd]
    dsimp only
    rw [if_pos hz]
    exact wpAny_update ho (wpAny_throw (h _ _ (Heap.SameBut.update ..) (Heap.get?_update_self _ ho (Obj.isFreed_of_fields (Obj.data_mapFields hd _))) (Obj.cls_mapFields ..)))

theorem HndAt.sb {h h' : Heap} {b : Addr} {hnd : Option Addr} (x : HndAt h hnd) (ne : hnd ≠ some b) (k : Heap.SameBut b h h') : HndAt h' hnd := by
  cases hnd with
  | none => trivial
  | some e => obtain ⟨o, vs, ho, r⟩ := x; exact ⟨o, vs, (k.2 e fun q => ne (by rw [q])).trans ho, r⟩
theorem raise_stop {α : Type} {hnd : Option Addr} {Q : α → Shared → Prop} (hA : A.handled = hnd.map Value.ref) (hh : HndAt s.heap hnd)
    (h : ∀ h' e, (∀ b o, s.heap.get? b = some o → h'.get? b = some o) → ({ s with heap := h' } : Shared).TypeIs (.ref e) "StopIteration" → E (.ref e) { s with heap := h' }) :
    wpAny (model prog w) A ((newExc (.type "StopIteration") [] >>= fun e => raiseNew e) : Sem α) Q E s := by
  refine wpAny_bind ?_
  simp only [newExc, newTuple]
  refine wpAny_bind (wpAny_newObj_type ?_ (by size_fits))
  refine wpAny_bind (m := firstArgMember _ _) (wpAny_of_eq (a := Value.none) (by first | rfl | (simp only [firstArgMember]; rfl)) ?_)
  refine wpAny_newObj_type ?_ (by size_fits)
  dsimp only
  refine raiseNew_any (hnd := hnd) hA (Heap.get?_push_size _ rfl) rfl (by simp; try omega) (hh.keeps fun b o e => Heap.get?_push_of_some _ (Heap.get?_push_of_some _ e)) ?_ fun h' o' sb ho' hc => ?_
  · rintro rfl
    obtain ⟨o, _, q, _⟩ := hh
    have := Heap.lt_size q
    rw [Heap.size_push] at this
    exact absurd this (by simp)
  · refine h h' _ (fun b o e => ?_) ⟨o', ho', hc⟩
    refine (sb.2 b ?_).trans (Heap.get?_push_of_some _ (Heap.get?_push_of_some _ e))
    rintro rfl
    have := Heap.lt_size e
    rw [Heap.size_push] at this
    exact absurd this (by simp)

theorem list_end {it l : Addr} {i : Nat} {items} {hnd : Option Addr} {Q : Option Value → Shared → Prop} (hA : A.handled = hnd.map Value.ref) (hh : HndAt s.heap hnd) (hit : s.heap.IsListIter it l i) (hl : s.heap.IsList l items) (hx : items[i]? = none) (hne : hnd ≠ some it)
    (hQ : ∀ h', Heap.ExtBut it s.heap h' → Q none { s with heap := h' }) : wpAny (model prog w) A (pyNext (.ref it)) Q E s := by
  obtain ⟨o, ho, hc, hd⟩ := id hit
  obtain ⟨ol, hol, _, nl, hdl⟩ := hl
  unfold pyNext
  refine wpAny_bind (wpAny_attempt (wpAny_callSpecial?_slot (name := Str.ofString "__next__") hit.typeIs slot_listiter_next
    (wpAny_call_entry slot_listiter_next hit.typeIs entry_listiter_next ?_ (args_listiter_next _))))
  show wpAny _ _ (field (.ref it) 0 >>= _) _ _ s
  refine wpAny_bind (wpAny_field ho hd (x := .ref l) rfl ?_)
  show wpAny _ _ (if (Value.ref l == Value.none) = true then _ else _) _ _ s
  refine wpAny_ite_false (decide_eq_false (show ¬ ((Value.ref l == Value.none) = true) from Bool.false_ne_true)) ?_
  show wpAny _ _ (field (.ref it) 1 >>= _) _ _ s
  refine wpAny_bind (wpAny_field ho hd (x := .int i 0) rfl ?_)
  show wpAny _ _ (seqItems? (.ref l) >>= _) _ _ s
  refine wpAny_bind (wpAny_seqItems hol hdl ?_)
  simp only [Int.toNat_natCast, hx]
  refine wpAny_bind (wpAny_rule (wpAny_bind (wpAny_setField ho hd (by simp) ?_)))
  refine raise_stop (hnd := hnd) hA (hh.sb hne (Heap.SameBut.update ..)) fun h' e k ty => ?_
  refine wpAny_bind (wpAny_isInstance (T := "StopIteration") (b := true) ty isSubtype_stop ?_)
  exact wpAny_pure (hQ _ (fun b o hb e => k b o ((Heap.SameBut.update ..).extBut b o hb e)))
end
end Mine
end

noncomputable section
open PySem PySem.W PyProof.Rows PySem.Calls PySem.Spec PySem.SeqAt PySem.Builtin
set_option maxRecDepth 100000
namespace Mine

section
variable {prog : Program} {w : World} {A : Around} {E : Value → Shared → Prop} {s : Shared} {hnd : Option Addr}

set_option tactic.hygienic true in
theorem dr_pairs {prog : Program} {w : World} {W : Wd} {d : List (Str × AV)} {es : List DictEntry} (r : DR w.params W d es) : ∃ kvs, Pairs (strKind prog w) es kvs ∧ kvs.map (·.1) = d.map (·.1) := by
  induction r with
  | nil => exact ⟨[], .nil, rfl⟩
  | cons hk h r ih =>
    rename_i k t a v d es
    obtain ⟨kvs, p, e⟩ := ih
    exact ⟨(k, v) :: kvs, .cons (strKind_is prog w k t) rfl p, by rw [List.map_cons, List.map_cons, e]⟩

theorem keys_end {it d : Addr} {i ep : Nat} {kvs : List (Str × Value)} {Q : Option Value → Shared → Prop} (hA : A.handled = hnd.map Value.ref) (hh : HndAt s.heap hnd) (hit : s.heap.IsKeyIter it d i kvs.length ep)
    (hm : s.heap.DictAt (strKind prog w) d kvs ep) (hx : kvs[i]? = none) (hne : hnd ≠ some it)
    (hQ : ∀ h', Heap.ExtBut it s.heap h' → Q none { s with heap := h' }) : wpAny (model prog w) A (pyNext (.ref it)) Q E s := by
  obtain ⟨o, ho, hc, hd⟩ := id hit
  obtain ⟨od, es, hod, hcd, hdd, hk, hp, hn⟩ := id hm
  unfold pyNext
  refine wpAny_bind (wpAny_attempt (wpAny_callSpecial?_slot (name := Str.ofString "__next__") hit.typeIs F.slot_dict_keyiterator_next
    (wpAny_call_entry F.slot_dict_keyiterator_next hit.typeIs F.entry_dict_keyiterator_next ?_ (F.args_dict_keyiterator_next_1 _))))
  refine wpAny_bind (wpAny_pure ?_)
  refine wpAny_bind ?_
  refine wpAny_bind ?_
  refine wpAny_bind (wpAny_typeNameOfWhole_keyiter hit.typeIs (wpAny_pure ?_))
  refine wpAny_bind (wpAny_fieldsOf ho hd ?_)
  have hown : Builtin.Dict_items.ownsTuple "dict_keyiterator" = false := by decide
  rw [if_neg (by rw [hown]; exact Bool.false_ne_true)]
  show wpAny _ _ (if (Value.ref d == Value.none) = true then _ else _) _ _ s
  refine wpAny_ite_false (decide_eq_false (show ¬ ((Value.ref d == Value.none) = true) from Bool.false_ne_true)) ?_
  refine wpAny_bind (wpAny_pure ?_)
  refine wpAny_bind (wpAny_dictEntries hod hdd ?_)
  have hsz : es.size = kvs.length := by rw [← hp.length]; simp
  refine wpAny_ite_false (decide_eq_false (by rw [hsz]; simp)) ?_
  refine wpAny_bind (wpAny_pure ?_)
  refine wpAny_bind (wpAny_dictEpoch hod hdd ?_)
  refine wpAny_ite_false (decide_eq_false (by simp)) ?_
  refine wpAny_pure ?_
  have hge : es.size ≤ i := by rw [hsz]; simpa using hx
  simp only [show ¬ ((i : Int) < 0) from by omega, if_false, Int.toNat_natCast, Array.getElem?_eq_none hge]
  refine wpAny_bind ?_
  refine wpAny_bind (wpAny_typeNameOfWhole_keyiter hit.typeIs (wpAny_pure ?_))
  show wpAny _ _ (setField (.ref it) 0 .none >>= _) _ _ s
  refine wpAny_bind (wpAny_setField ho hd (by simp) ?_)
  refine raise_stop (hnd := hnd) hA (hh.sb hne (Heap.SameBut.update ..)) fun h' e k ty => ?_
  refine wpAny_bind (wpAny_isInstance (T := "StopIteration") (b := true) ty isSubtype_stop ?_)
  exact wpAny_pure (hQ _ (fun b o hb e => k b o ((Heap.SameBut.update ..).extBut b o hb e)))

theorem HndAt.at {h h' : Heap} (x : HndAt h hnd) (k : ∀ b, hnd = some b → ∀ o, h.get? b = some o → h'.get? b = some o) : HndAt h' hnd := by
  cases hnd with
  | none => trivial
  | some e => obtain ⟨o, vs, ho, r⟩ := x; exact ⟨o, vs, k e rfl o ho, r⟩


theorem walk_keys (hA : A.handled = hnd.map Value.ref) (I d : Addr) (hne : d ≠ I) (hn : hnd ≠ some I) (kvs : List (Str × Value)) (ep : Nat) :
    Walks prog w A I (I :: d :: hnd.toList) [I] kvs.length (fun i v => ∃ k x, kvs[i]? = some (k, x) ∧ (strKind prog w).is k v = true) (fun i h => h.IsKeyIter I d i kvs.length ep ∧ h.DictAt (strKind prog w) d kvs ep ∧ HndAt h hnd) where
  sub := fun b hb => by simp at hb; simp [hb]
  frame := fun _ _ _ st hk => ⟨st.1.at fun o e => hk I (by simp) o e, st.2.1.at' fun o e => hk d (by simp) o e, st.2.2.at fun b q o e => hk b (by simp [q]) o e⟩
  item := fun i s Q E hi st hQ => by
    obtain ⟨⟨k, x⟩, hx⟩ : ∃ p, kvs[i]? = some p := ⟨kvs[i], by simp [hi]⟩
    refine wpAny_pyNext_dict_item st.1 st.2.1 hx fun key h' hkey hit' hs' => ?_
    exact hQ key h' s.toks ⟨k, x, hx, hkey⟩ ⟨hit', st.2.1.extBut hs'.extBut hne, st.2.2.sb hn hs'⟩ fun b o hb e => hs'.extBut b o (fun h => hb (by simp [h])) e
  done := fun s Q E st hQ => keys_end hA st.2.2 st.1 st.2.1 (by simp) hn fun h' he' => hQ h' s.toks fun b o hb e => he' b o (fun h => hb (by simp [h])) e
  self := fun _ _ _ _ st hQ => wpAny_pyIter_keyiter st.1 hQ

theorem collect_keys {d : Addr} {kvs : List (Str × Value)} {ep : Nat} {Q : List Value → Shared → Prop} (hA : A.handled = hnd.map Value.ref) (hh : HndAt s.heap hnd) (lo : (d == sysModules) = false) (hm : s.heap.DictAt (strKind prog w) d kvs ep) (hz : kvs.length ≤ sizeLine)
    (hQ : ∀ h' tk (acc : List Value), (∀ b o, s.heap.get? b = some o → h'.get? b = some o) → s.heap.objs.size < h'.objs.size → StrsAre acc (kvs.map (·.1)) → Q acc { s with heap := h', toks := tk }) : wpAny (model prog w) A (collect (.ref d)) Q E s := by
  have hT : s.TypeIs (.ref d) "dict" := hm.dictOf.typeIs
  have hdl := hm.lt_size
  unfold collect
  refine wpAny_bind (wpAny_runValue (codeAny_builtin F.entry_proto_collect ?_))
  rw [Around.under_plainId F.plain_proto_collect _]
  show wpAny _ A.in1 (newList [] >>= fun l => again (.builtin "list.__iadd__" ⟨[l, .ref d], []⟩)) _ _ s
  refine wpAny_bind (wpAny_newObj_type ?_)
  refine wpAny_pure ⟨plainId_quiet F.plain_list_iadd _, codeAny_builtin F.entry_list_iadd ?_⟩
  rw [Around.under_plainId F.plain_list_iadd _]
  have S0 : (s.heap.push { cls := .type "list", data := .seq ([] : List Value).toArray }).get? s.heap.objs.size = some { cls := .type "list", data := .seq ([] : List Value).toArray } := Heap.get?_push_size _ rfl
  show wpAny _ A.in1 (Builtin.List.listExtendWith (.ref s.heap.objs.size) (.ref d) (.ref s.heap.objs.size)) _ _ _
  unfold Builtin.List.listExtendWith
  generalize hH : s.heap.push { cls := .type "list", data := .seq ([] : List Value).toArray } = H at S0
  have up : ∀ b o, s.heap.get? b = some o → H.get? b = some o := fun b o e => by rw [← hH]; exact Heap.get?_push_of_some _ e
  have hm₁ : H.DictAt (strKind prog w) d kvs ep := hm.keep up
  refine wpAny_bind (wpAny_typeOf (T := "dict") hm₁.dictOf.typeIs ?_)
  have h1 : Builtin.List.listSameRef (.ref s.heap.objs.size) (.ref d) = false := by simp [Builtin.List.listSameRef, Nat.ne_of_gt hdl]
  have h2 : (Value.type "dict" == Value.type "list") = false := by decide
  have h3 : (Value.type "dict" == Value.type "tuple") = false := by decide
  refine wpAny_ite_false (decide_eq_false (by rw [h1, h2, h3]; decide)) ?_
  have hl : H.objs.size = s.heap.objs.size + 1 := by rw [← hH, Heap.size_push]
  refine wpAny_bind (wpAny_pyIter_dict lo hm₁ ?_)
  dsimp only
  generalize hJ : H.push { cls := .type "dict_keyiterator", data := .fields #[.ref d, .int 0 0, .int kvs.length 0, .int ep 0] } = J
  have up₂ : ∀ b o, H.get? b = some o → J.get? b = some o := fun b o e => by rw [← hJ]; exact Heap.get?_push_of_some _ e
  have S1 := up₂ _ _ S0
  have dI : d ≠ H.objs.size := by rw [hl]; exact Nat.ne_of_lt (Nat.lt_succ_of_lt hdl)
  have xI : hnd ≠ some H.objs.size := by
    rintro rfl
    obtain ⟨_, _, q, _⟩ := hh
    have := Heap.lt_size q
    rw [hl] at this
    exact absurd this (Nat.not_lt.mpr (Nat.le_succ _))
  have W := walk_keys (prog := prog) (w := w) (A := A.in1) (hnd := hnd) hA H.objs.size d dI xI kvs ep
  have hSf : s.heap.objs.size ∉ H.objs.size :: d :: hnd.toList := by
    simp only [List.mem_cons, Option.mem_toList, not_or]
    refine ⟨by rw [hl]; exact Nat.ne_of_lt (Nat.lt_succ_self _), Nat.ne_of_gt hdl, ?_⟩
    rintro rfl
    obtain ⟨_, _, q, _⟩ := hh
    exact absurd (Heap.lt_size q) (Nat.lt_irrefl _)
  refine wpAny_bind (wpAny_holding (kdl_hint_dict (hm₁.keep up₂).dictOf.typeIs ?_))
  have hst : J.IsKeyIter H.objs.size d 0 kvs.length ep ∧ J.DictAt (strKind prog w) d kvs ep ∧ HndAt J hnd := ⟨⟨_, by rw [← hJ]; exact Heap.get?_push_size _ rfl, rfl, rfl⟩, hm₁.keep up₂, (hh.keeps up).keeps up₂⟩
  have key : ∀ {R : Result → Shared → Prop} (_hR : ∀ h' tk acc' c', (∀ b o, s.heap.get? b = some o → h'.get? b = some o) → h'.get? s.heap.objs.size = some { cls := .type "list", dict := none, data := .seq acc' c', slots := #[] } → StrsAre acc'.toList (kvs.map (·.1)) → R (.ok (.ret (.ref s.heap.objs.size))) { s with heap := h', toks := tk })
      (h : Heap) (c₁ tk : Nat), (∀ b o, b ≠ s.heap.objs.size → J.get? b = some o → h.get? b = some o) → h.get? s.heap.objs.size = some { cls := .type "list", data := .seq #[] c₁ } →
      codeAny (model prog w) A (.builtin "list.extend.loop" ⟨[.ref s.heap.objs.size, .ref H.objs.size, .ref s.heap.objs.size], []⟩) R { s with heap := h, toks := tk } := by
    intro R hR h c₁ tk hk hS₁
    refine codeAny_extend_loopS W.toS hz _ hSf _ kvs.length 0 { s with heap := h, toks := tk } #[] c₁ rfl (Nat.zero_le _) (W.frame 0 J h hst fun b hb o e => hk b o (fun q => hSf (q ▸ hb)) e) hS₁ (ItemsOf.nil _) fun s' acc' c' hm' hS' hacc => ?_
    have e := Moved.eq_with hm'
    rw [e]
    refine hR s'.heap s'.toks acc' c' (fun b o q => ?_) hS' ?_
    · have bl := Heap.lt_size q
      refine hm'.heap b o (fun hmem => ?_) (hk b o (Nat.ne_of_lt bl) (up₂ _ _ (up _ _ q)))
      simp only [List.mem_cons, List.not_mem_nil, or_false] at hmem
      rcases hmem with rfl | rfl
      · exact absurd bl (Nat.lt_irrefl _)
      · rw [hl] at bl; exact absurd bl (Nat.not_lt.mpr (Nat.le_succ _))
    · obtain ⟨hsz, hits⟩ := hacc
      have : ∀ (kvs : List (Str × Value)) (l : List Value), l.length = kvs.length → (∀ (j : Nat) (v : Value), l[j]? = some v → ∃ k x, kvs[j]? = some (k, x) ∧ (strKind prog w).is k v = true) → StrsAre l (kvs.map (·.1)) := by
        intro kvs
        induction kvs with
        | nil => intro l hl _; cases l with
          | nil => exact .nil
          | cons _ _ => cases hl
        | cons p r ih =>
          intro l hl hv
          cases l with
          | nil => cases hl
          | cons v l =>
            obtain ⟨k, x, e, hv0⟩ := hv 0 v rfl
            cases e
            have : ∃ t, v = .str k t := by
              simp only [PySem.strKind] at hv0
              cases v with
              | str y t =>
                simp only [Value.isStrOf, beq_iff_eq] at hv0
                exact ⟨t, by rw [hv0]⟩
              | _ => cases hv0
            obtain ⟨t, rfl⟩ := this
            exact .cons k t (ih l (by simpa using hl) fun j v h => by simpa using hv (j + 1) v h)
      exact this kvs acc'.toList (by simpa using hsz) fun j v h => hits j v (by rw [← Array.getElem?_toList]; exact h)
  have fin : ∀ h' tk acc' c', (∀ b o, s.heap.get? b = some o → h'.get? b = some o) → h'.get? s.heap.objs.size = some { cls := .type "list", dict := none, data := .seq acc' c', slots := #[] } → StrsAre acc'.toList (kvs.map (·.1)) →
      wpAny (model prog w) A (load s.heap.objs.size >>= fun o => match o.data with | .seq xs _ => pure xs.toList | _ => unsupported "internal:collect") Q E { s with heap := h', toks := tk } := by
    intro h' tk acc' c' k hS hacc
    exact wpAny_bind (wpAny_load hS (wpAny_pure (hQ h' tk _ k (Heap.lt_size hS) hacc)))
  refine wpAny_ite_split (fun _ => ?_) (fun _ => wpAny_pure ⟨plainId_quiet PySem.F.plain_extend_loop _, key fin J 0 _ (fun b o _ e => e) S1⟩)
  refine wpAny_bind (wpAny_rule ?_)
  refine wpAny_bind ?_
  show wpAny _ _ (updateSeq s.heap.objs.size (·.push .none) >>= fun _ => updateSeq s.heap.objs.size (·.pop)) _ _ _
  refine wpAny_bind (wpAny_updateSeq S1 rfl ?_)
  have S2 := Heap.get?_update_self (Obj.mapSeq (·.push Value.none)) S1 rfl
  refine wpAny_updateSeq (hz := by seq_fits) S2 rfl ?_
  have S3 := Heap.get?_update_self (Obj.mapSeq (·.pop)) S2 rfl
  exact wpAny_pure ⟨plainId_quiet PySem.F.plain_extend_loop _, key fin _ _ _ (fun b o hb e => (Heap.get?_update_other _ _ (Ne.symm hb)).trans ((Heap.get?_update_other _ _ (Ne.symm hb)).trans e)) S3⟩
end
end Mine
end

noncomputable section
open PySem PySem.W PyProof.Rows PySem.Calls PySem.Spec PySem.SeqAt PySem.Builtin
set_option maxRecDepth 100000
namespace Mine

theorem strLe_trans (a b c : Str) (h : strLe a b = true) (k : strLe b c = true) : strLe a c = true := by
  simp only [strLe, decide_eq_true_eq] at *
  exact List.le_trans h k
theorem strLe_total (a b : Str) : (strLe a b || strLe b a) = true := by
  simp only [strLe, Bool.or_eq_true, decide_eq_true_eq]
  exact List.le_total _ _
theorem strLe_anti (a b : Str) (h : strLe a b = true) (k : strLe b a = true) : a = b := by
  simp only [strLe, decide_eq_true_eq] at *
  have e := List.le_antisymm h k
  cases a; cases b
  simp only [Array.toList_inj] at e
  exact congrArg _ e
theorem le_of_not_lt (p x : Str) (h : ltCps x.cps.toList p.cps.toList = false) : strLe p x = true := by
  rw [ltCps_eq, decide_eq_false_iff_not] at h
  simp only [strLe, decide_eq_true_eq]
  exact List.not_lt.mp h
theorem rising_pw (p : Str) (l : List Str) (h : risingS p l = true) : (p :: l).Pairwise (fun a b => strLe a b = true) := by
  induction l generalizing p with
  | nil => exact List.pairwise_singleton _ _
  | cons x r ih =>
    have h : (!ltCps x.cps.toList p.cps.toList && risingS x r) = true := h
    simp only [Bool.and_eq_true, Bool.not_eq_true'] at h
    have ih := ih x h.2
    refine List.pairwise_cons.mpr ⟨fun y hy => ?_, ih⟩
    have px := le_of_not_lt p x h.1
    rcases List.mem_cons.mp hy with rfl | hy
    · exact px
    · exact strLe_trans p x y px (List.rel_of_pairwise_cons ih hy)
theorem sorted_is {ks ss : List Str} (hp : ss.Perm ks) (hs : sortedS ss = true) : ss = sortStrs ks := by
  have h1 : ss.Pairwise (fun a b => strLe a b = true) := by
    cases ss with
    | nil => exact .nil
    | cons x r => exact rising_pw x r hs
  have h2 : (sortStrs ks).Pairwise (fun a b => strLe a b = true) := List.pairwise_mergeSort strLe_trans strLe_total ks
  exact List.Perm.eq_of_pairwise (le := fun a b => strLe a b = true) (fun a b _ _ h k => strLe_anti a b h k) h1 h2 (hp.trans (List.mergeSort_perm ks strLe).symm)

section
variable {prog : Program} {w : World} {A : Around} {E : Value → Shared → Prop} {s : Shared} {hnd : Option Addr}

theorem sorted_keys {d : Addr} {kvs : List (Str × Value)} {ep : Nat} {Q : Value → Shared → Prop} (hA : A.handled = hnd.map Value.ref) (hh : HndAt s.heap hnd) (lo : (d == sysModules) = false) (hm : s.heap.DictAt (strKind prog w) d kvs ep) (hz : kvs.length < 60)
    (hQ : ∀ h' tk D (out : List Value), (∀ b o, s.heap.get? b = some o → h'.get? b = some o) → s.heap.objs.size ≤ D → ListAt h' D out.toArray → StrsAre out (sortStrs (kvs.map (·.1))) → Q (.ref D) { s with heap := h', toks := tk }) :
    wpAny (model prog w) A (call (.builtin "sorted") [.ref d]) Q E s := by
  refine Calls.call_function_entry kind_sorted plain_sorted entry_sorted (args_sorted1 _) ?_
  unfold Builtin.«sorted»
  refine wpAny_bind (m := checkCount "sorted" 1 1 _) (wpAny_pure ?_)
  refine wpAny_bind (collect_keys (hnd := hnd) hA hh lo hm (by rw [sizeLine_eq]; omega) fun h' tk acc k lt hS => ?_)
  have hlen : acc.length < 64 := by rw [hS.length, List.length_map]; omega
  refine wpAny_bind (wpAny_newObj_type ?_ (by show acc.toArray.size ≤ sizeLine; rw [List.size_toArray, sizeLine_eq]; omega))
  dsimp only
  have ho : (h'.push { cls := .type "list", data := .seq acc.toArray }).get? h'.objs.size = some (seqObj "list" acc.toArray 0) := Heap.get?_push_size _ rfl
  refine wpAny_bind (wpAny_holding (wpAny_call_entry slot_list_sort ⟨_, ho, rfl⟩ entry_list_sort (list_sort_treeK strKind_oneLt (s := { s with heap := h'.push { cls := .type "list", data := .seq acc.toArray }, toks := tk }) ho hS.keysOf (fun v₁ v₂ rest e => keyKind_strs (by rw [← e]; exact hS)) hlen fun st' a1 a2 => ⟨_, rfl, ?_⟩) (args_list_sort _)))
  obtain ⟨ss', e1, e2, e3⟩ := sorted_out_str hS a1 a2
  obtain ⟨e, he⟩ := sortedHeap_at (vs := acc) (out := (arrOf st').map (·.2)) ho
  refine wpAny_pure ⟨_, rfl, hQ _ _ _ ((arrOf st').map (·.2)).toList (fun b o q => ?_) ?_ (by rw [Array.toArray_toList]; exact ⟨_, he, rfl, rfl, e, rfl⟩) ?_⟩
  · have bl := Heap.lt_size (k b o q)
    exact (sortedHeap_old (Nat.ne_of_lt bl) (by rw [Heap.size_push]; exact Nat.lt_succ_of_lt bl)).trans (Heap.get?_push_of_some _ (k b o q))
  · exact Nat.le_of_lt lt
  · rw [← sorted_is e2 e3]; exact e1
end
end Mine
namespace Mine
section
variable {prog : Program} {K : Frag} {τ : List (Addr × List Value)} {B : Bx} {Φ : Fn} {n : Nat}

set_option backward.eqns.nonrecursive false in
noncomputable def Bl.val : Bl → Value
  | .len => .builtin "len" | .chr => .builtin "chr" | .bytes => .type "bytes" | .int => .type "int" | .abs => .builtin "abs" | .sorted => .builtin "sorted" | .tuple => .type "tuple"
theorem Bl.boot (x : Bl) : bootBuiltins x.name = some x.val := by cases x <;> rfl
theorem Bl.nn (x : Bl) : x.name ≠ "__name__" := by cases x <;> decide

theorem strs_back {W : Wd} {vs : List Value} {ss : List Str} (h : StrsAre vs ss) (hz : ∀ s ∈ ss, s.length ≤ 16777216) : VRs W (ss.map .str) vs := by
  induction h with
  | nil => exact .nil
  | cons x t h ih => exact .cons (.str x t (hz x (.head _))) (ih fun s hs => hz s (.tail _ hs))
theorem dr_small {P : Params} {W : Wd} {d : List (Str × AV)} {es : List DictEntry} (r : DR P W d es) : ∀ k ∈ d.map (·.1), k.length ≤ 16777216 := by
  induction r with
  | nil => simp
  | cons hk h r ih =>
    intro k hk'
    rcases List.mem_cons.mp hk' with rfl | hk'
    · exact hk
    · exact ih k hk'
theorem bytes_of_ints {ns : List Int} (h : ∀ n ∈ ns, 0 ≤ n ∧ n < 256) : byteArr ns = (ns.map fun n => n.toNat.toUInt8).toArray := by
  unfold byteArr
  simp

theorem lst_at {C : Cx} {W : Wd} {st : St} {s : Shared} (T : Stt B C W st s) {j : Nat} {l : List AV} (hl : st.hp[j]? = some (.list l)) {v : Value} (r : VR W (.obj j) v) : ∃ a us, v = .ref a ∧ s.heap.IsList a us.toArray ∧ VRs W l us ∧ l.length ≤ 16777216 := by
  obtain ⟨_, _, rfl, hj⟩ := VR.inv_o r
  obtain ⟨q, hq, a, us, rfl, xl, hvs, hz⟩ := T.objs.at_ _ _ hl
  rw [hj] at hq; cases hq
  exact ⟨_, _, rfl, xl.isList, hvs, hz⟩
theorem blt1_ok {C : Cx} {A : Around} {W : Wd} {st : St} {s : Shared} {Q : QV} {Q' E' : Value → Shared → Prop} (G : Gx K τ B) (hA : AOk C A n) (T : Stt B C W st s) {x : Bl} {a : AV} {v : Value} (r : VR W a v)
    (h : blt1 C.hnd.isSome x a st Q) (kv : KV B C W Q Q') : wpAny (model prog B.w) A (call x.val [v]) Q' E' s := by
  cases x with
  | len =>
    cases a with
    | bytes b => obtain ⟨_, rfl, hz⟩ := VR.inv_y r; exact len_bytes (by simpa using by omega) (by simpa using kv W st _ _ _ (.refl W) T.tick (.int _ _) h)
    | obj j =>
      replace h := atL_inv h; obtain ⟨l, hl, h⟩ := h
      obtain ⟨_, us, rfl, xl, hvs, hz⟩ := lst_at T hl r
      have e := hvs.length
      refine call_len_list xl (by rw [List.size_toArray]; omega) ?_
      rw [List.size_toArray, e]
      exact kv W st _ _ _ (.refl W) T.tick (.int _ _) h
    | _ => exact h.elim
  | chr =>
    replace h := isI_inv h; obtain ⟨i, rfl, h⟩ := h
    obtain ⟨_, rfl⟩ := VR.inv_i r
    exact chr_of_range h.1 (by omega) (kv W st _ _ _ (.refl W) T.tick (.str _ _ (show 1 ≤ 16777216 by decide)) h.2.2)
  | bytes =>
    replace h := isO_inv h; obtain ⟨j, rfl, h⟩ := h
    replace h := atL_inv h; obtain ⟨l, hl, hd, ns, hn, hr, h⟩ := h
    have hA0 : A.handled = none := by
      have := hA.handled
      cases e : C.hnd with
      | none => rw [this, e]; rfl
      | some y => rw [e] at hd; cases hd
    obtain ⟨_, us, rfl, xl, hvs, hz⟩ := lst_at T hl r
    have hI := ints_are hvs hn
    refine call_bytes_ints xl hI hr (by rw [hvs.length, sizeLine_eq]; exact hz) hA0 fun h' t k hk => ?_
    rw [bytes_of_ints hr]
    exact kv W st _ _ _ (.refl W) (T.ext hk) (.bytes _ _ (by rw [List.length_map, ← hI.length, hvs.length]; exact hz)) h
  | int => replace h := isI_inv h; obtain ⟨i, rfl, h⟩ := h; obtain ⟨_, rfl⟩ := VR.inv_i r; exact call_int_int (kv W st _ _ _ (.refl W) T (.int _ _) h)
  | abs => replace h := isI_inv h; obtain ⟨i, rfl, h⟩ := h; obtain ⟨_, rfl⟩ := VR.inv_i r; exact call_abs_int fun u tk => kv W st _ _ _ (.refl W) T.tick (.int _ _) h
  | sorted =>
    replace h := isO_inv h; obtain ⟨j, rfl, h⟩ := h
    replace h := atD_inv h; obtain ⟨d, ep, hl, hlt, h⟩ := h
    obtain ⟨_, _, rfl, hj⟩ := VR.inv_o r
    obtain ⟨q, hq, a, es, rfl, ⟨o, ho, hx, hd⟩, hdr, hz, hnd⟩ := T.objs.at_ _ _ hl
    rw [hj] at hq; cases hq
    obtain ⟨kvs, hp, hk⟩ := dr_pairs (prog := prog) hdr
    have hlen : kvs.length = d.length := by have := congrArg List.length hk; simpa using this
    refine sorted_keys (hnd := C.hnd) hA.handled T.hnd (notMods T G.mods hj) (kvs := kvs) (ep := ep) ⟨o, es.toArray, ho, hx, hd, dr_keys hdr, by simpa using hp, by rw [hk]; exact hnd⟩ (by omega) fun h' tk D out hk' hD hL hS => ?_
    rw [hk] at hS
    have small : ∀ s ∈ sortStrs (d.map (·.1)), s.length ≤ 16777216 := fun s hs => dr_small hdr s ((List.mergeSort_perm _ _).mem_iff.mp hs)
    have le : W.le ⟨W.ρ ++ [[D]], W.τ⟩ := ⟨⟨_, rfl⟩, fun _ h => h⟩
    have hlen' : (sortStrs (d.map (·.1))).length = d.length := by unfold sortStrs; rw [(List.mergeSort_perm _ _).length_eq, List.length_map]
    have T' := T.addObj (r := [D]) (o' := .list ((sortStrs (d.map (·.1))).map .str)) (tk := tk) hk' (by simpa using hD) (by simp) ⟨D, out, rfl, hL, strs_back hS small, by rw [List.length_map, hlen']; omega⟩
    exact kv ⟨W.ρ ++ [[D]], W.τ⟩ _ _ _ _ le T' (.obj (r := []) (by rw [← T.objs.len]; simp)) h
  | tuple =>
    replace h := isO_inv h; obtain ⟨j, rfl, h⟩ := h
    replace h := atL_inv h; obtain ⟨l, hl, h⟩ := h
    obtain ⟨_, us, rfl, xl, hvs, hz⟩ := lst_at T hl r
    refine call_tuple_list xl (fun h' hk => ?_) (by rw [sizeLine_eq, List.size_toArray, hvs.length]; exact hz)
    obtain ⟨W', l', T', r'⟩ := new_tup (T.ext (tk := s.toks) hk) hvs hz
    exact kv W' _ _ _ _ l' T' r' h
theorem blt_ok {C : Cx} {A : Around} {W : Wd} {st : St} {s : Shared} {Q : QV} {Q' E' : Value → Shared → Prop} (G : Gx K τ B) (hA : AOk C A n) (T : Stt B C W st s) {x : Bl} {l : List AV} {vs : List Value} (r : VRs W l vs)
    (h : bltQ C.hnd.isSome x l st Q) (kv : KV B C W Q Q') : wpAny (model prog B.w) A (call x.val vs) Q' E' s := by
  cases l with
  | nil => exact h.elim
  | cons a l =>
  cases l with
  | cons _ _ => exact h.elim
  | nil =>
  obtain ⟨v, _, rfl, ra, r'⟩ := VRs.inv_cons r
  obtain rfl := VRs.inv_nil r'
  exact blt1_ok G hA T ra h kv
end
end Mine
end

noncomputable section
open PySem PySem.W PyProof.Rows PySem.Calls PySem.Spec PySem.SeqAt PySem.Builtin
set_option maxRecDepth 100000
namespace Mine
open PySem.Builtin.Bytes

section
variable {M : Model} {A : Around} {E : Value → Shared → Prop} {s : Shared}

theorem take_eq (id : String) (b : Array UInt8) (t : Tok) : takeBufferQuiet? id (.bytes b t) 0 = pure (some (b, none)) := by
  have h : takeBuffer? id (.bytes b t) 0 = pure (some (b, none)) := by
    unfold takeBuffer?
    rw [KBy.special_eq KBy.look_buffer, KBy.own_buffer]
    have e : buffer? id (.bytes b t) ((0 : Int) == fullReadOnly) = pure (some b) := by
      unfold buffer?
      rw [KBy.special_eq KBy.look_buffer, KBy.own_buffer, KBy.own_release]
      kernel_rfl
    rw [e]
    kernel_rfl
  unfold takeBufferQuiet?
  rw [h]
  rfl

theorem let_go_ok {keep : List Value} {Q : Unit → Shared → Prop} (h : Q () s) : ∀ taken : List (Value × Option Value), (∀ p ∈ taken, p.2 = none) → wpAny M A (joinLetGo taken keep) Q E s
  | [], _ => wpAny_pure h
  | (x, w) :: r, hn => by
    obtain rfl : w = none := hn _ (.head _)
    exact wpAny_bind (f := fun _ => joinLetGo r keep) (wpAny_letGo (let_go_ok h r fun p hp => hn p (.tail _ hp)))

theorem joined_flat : ∀ (bs : List (List UInt8)) (k : Nat) (acc : Array UInt8), (((bs.map List.toArray).zipIdx k).foldl (fun out (p : Array UInt8 × Nat) => (if p.2 > 0 then out ++ #[] else out) ++ p.1) acc) = acc ++ bs.flatten.toArray
  | [], k, acc => by simp
  | b :: r, k, acc => by
    rw [List.map_cons, List.zipIdx_cons, List.foldl_cons, joined_flat r (k + 1)]
    simp
end

theorem slot_bytes_join : Slot "bytes" "join" "bytes.join" :=
  .of (owner := "bytes") (n := "join") (by rw [typeLookup_type, builtinLookup_eq_fast]; kernel_rfl) (by decide +kernel) (by decide +kernel) (by decide +kernel)
    (by first | exact .inl (by decide +kernel) | exact .inr (by decide +kernel)) (by rw [isSubtype_type]; kernel_rfl)
theorem type_bytes_join : typeOf (.builtin "bytes.join") = pure (.type "method_descriptor") := by show builtinType _ = _; rw [builtinType_eq_fast]; kernel_rfl
theorem entry_bytes_join : entryFor table "bytes.join" = some Builtin.«bytes.join» := entryFor_of_tree (by kernel_rfl)
theorem args_bytes_join (a b : Value) : argsOk "bytes.join" ⟨[a, b], []⟩ := by
  unfold argsOk; rw [signature?_of (id := "bytes.join") (n := ['n', 'i', 'o', 'j']) (o := ['s', 'e', 't', 'y', 'b']) (by kernel_rfl) FB.owner_bytes]; kernel_rfl

theorem BytesAre.length {vs : List Value} {bs : List (List UInt8)} (h : BytesAre vs bs) : vs.length = bs.length := by
  induction h with
  | nil => rfl
  | cons _ _ _ ih => simp [ih]
theorem BytesAre.get {vs : List Value} {bs : List (List UInt8)} (h : BytesAre vs bs) : ∀ (i : Nat) (_ : i < bs.length), ∃ b t, bs[i]? = some b ∧ vs[i]? = some (.bytes b.toArray t) := by
  induction h with
  | nil => intro i hi; cases hi
  | cons b t h ih =>
    intro i hi
    cases i with
    | zero => exact ⟨b, t, rfl, rfl⟩
    | succ i => simpa using ih i (by simpa using hi)

section
variable {prog : Program} {w : World} {A : Around} {E : Value → Shared → Prop} {s : Shared}

theorem fold_flat : ∀ (bs : List (List UInt8)) (a : Nat), (bs.map List.toArray).toArray.foldl (fun x y => x + y.size) a = a + bs.flatten.length := by
  intro bs a
  rw [← Array.foldl_toList]
  induction bs generalizing a with
  | nil => simp
  | cons b r ih =>
    simp only [List.map_cons, List.foldl_cons] at ih ⊢
    rw [ih]
    simp; omega

set_option tactic.hygienic true in
theorem joinM_ok {D : Addr} {t : Tok} {vs : List Value} {bs : List (List UInt8)} {Q : Value → Shared → Prop} (hl : s.heap.IsList D vs.toArray) (hb : BytesAre vs bs) (hz : bs.flatten.length ≤ 16777216)
    (h : ∀ t' k, Q (.bytes bs.flatten.toArray t') { s with toks := k }) : wpAny (model prog w) A (joinM .bytes ⟨[.bytes #[] t, .ref D], []⟩) (fun fin s' => ∃ v, fin = .done (.ret v) ∧ Q v s') E s := by
  obtain ⟨o, ho, hc, n, hd⟩ := id hl
  unfold joinM
  refine wpAny_bind (wpAny_of_eq (a := (.bytes #[] t, .ref D)) rfl ?_)
  show wpAny _ _ (joinItems (.ref D) >>= _) _ _ s
  refine wpAny_bind ?_
  unfold joinItems
  refine wpAny_bind (wpAny_typeOf hl.typeIs ?_)
  show wpAny _ _ (if (Value.type "list" == Value.type "list" || _) = true then _ else _) _ _ s
  refine wpAny_ite_true (decide_eq_true (by decide)) ?_
  refine wpAny_pure ?_
  show wpAny _ _ (seqItems? (.ref D) >>= _) _ _ s
  refine wpAny_bind (wpAny_seqItems ho hd ?_)
  dsimp only
  refine wpAny_ite_true (decide_eq_true (by decide)) ?_
  have loop : ∀ {f : Nat → Array (Array UInt8) × List (Value × Option Value) → Sem (ForInStep (Array (Array UInt8) × List (Value × Option Value)))} {Q' : Array (Array UInt8) × List (Value × Option Value) → Shared → Prop},
      (∀ i (parts : Array (Array UInt8)) (taken : List (Value × Option Value)) (R : ForInStep (Array (Array UInt8) × List (Value × Option Value)) → Shared → Prop), i < bs.length → parts = ((bs.take i).map List.toArray).toArray → (∀ p ∈ taken, p.2 = none ∧ p.1.onHeap = false) →
        (∀ taken', (∀ p ∈ taken', p.2 = none ∧ p.1.onHeap = false) → R (.yield (((bs.take (i + 1)).map List.toArray).toArray, taken')) s) → wpAny (model prog w) A (f i (parts, taken)) R E s) →
      (∀ taken : List (Value × Option Value), (∀ p ∈ taken, p.2 = none) → Q' ((bs.map List.toArray).toArray, taken) s) →
      ∀ k i (taken : List (Value × Option Value)), i + k = bs.length → (∀ p ∈ taken, p.2 = none ∧ p.1.onHeap = false) → wpAny (model prog w) A (forIn (List.range' i k 1) (((bs.take i).map List.toArray).toArray, taken) f) Q' E s := by
    intro f Q' hf hq k
    induction k with
    | zero =>
      intro i taken hi ht
      obtain rfl : i = bs.length := by omega
      rw [List.range'_zero, List.forIn_nil, List.take_length]
      exact wpAny_pure (hq taken fun p hp => (ht p hp).1)
    | succ k ih =>
      intro i taken hi ht
      rw [List.range'_succ, List.forIn_cons]
      exact wpAny_bind (hf i _ taken _ (by omega) rfl ht fun taken' ht' => ih (i + 1) taken' (by omega) ht')
  have hlen : vs.toArray.size = bs.length := by rw [List.size_toArray]; exact hb.length
  have body : ∀ i (taken : List (Value × Option Value)), i < bs.length → (∀ p ∈ taken, p.2 = none ∧ p.1.onHeap = false) →
      ∃ b t, vs.toArray.getD i .none = .bytes b t ∧ ((bs.take i).map List.toArray).toArray.push b = ((bs.take (i + 1)).map List.toArray).toArray ∧ taken.any (fun p => p.1.onHeap) = false := by
    intro i taken hi ht
    obtain ⟨b, u, e1, e2⟩ := hb.get i hi
    refine ⟨b.toArray, u, ?_, ?_, ?_⟩
    · simp [Array.getD_eq_getD_getElem?, e2]
    · rw [List.take_add_one, e1]
      simp
    · rw [List.any_eq_false]
      intro p hp; rw [(ht p hp).2]; decide
  rcases hb with _ | ⟨b, u, hb⟩
  · rw [Std.Legacy.Range.forIn_eq_forIn_range']
    refine wpAny_bind (wpAny_pure ?_)
    refine wpAny_bind (wpAny_of_eq (a := #[]) rfl ?_)
    refine wpAny_ite_false (decide_eq_false (by decide)) ?_
    show wpAny _ _ (mkBytes _ >>= _) _ _ _
    refine wpAny_bind (wpAny_mkBytes ?_)
    refine wpAny_bind (wpAny_holding (wpAny_point (wpAny_bind (wpAny_pure ?_))))
    exact wpAny_pure ⟨_, rfl, h _ _⟩
  rcases hb with _ | ⟨b', u', hb⟩
  · refine wpAny_bind (wpAny_typeOf (typeIs_bytes _ _ _) ?_)
    refine wpAny_ite_true (decide_eq_true (by decide)) ?_
    refine wpAny_bind (wpAny_rule (wpAny_pure ⟨_, rfl, ?_⟩))
    have h1 : Q (.bytes [b].flatten.toArray u) s := h u s.toks
    have h2 : Q (.bytes b.toArray u) s := by simpa using h1
    exact h2
  rename_i vs bs
  rw [Std.Legacy.Range.forIn_eq_forIn_range']
  refine wpAny_bind ?_
  have e0 : ([:(Value.bytes b.toArray u :: Value.bytes b'.toArray u' :: vs).toArray.size] : Std.Legacy.Range).size = (b :: b' :: bs).length := by simpa [Std.Legacy.Range.size] using hb.length
  rw [e0]
  refine loop ?_ ?_ (b :: b' :: bs).length 0 [] (by omega) (by simp)
  · rintro i parts taken R hi rfl ht hR
    obtain ⟨x, t', e1, e2, e3⟩ := body i taken hi ht
    refine wpAny_bind (wpAny_seqItems ho hd ?_)
    dsimp only
    refine wpAny_ite_false (decide_eq_false (by rw [e3]; decide)) ?_
    rw [e1, take_eq]
    refine wpAny_bind (wpAny_holding (wpAny_pure ?_))
    dsimp only
    refine wpAny_bind (wpAny_seqItems ho hd ?_)
    dsimp only
    refine wpAny_ite_false (decide_eq_false (by simp)) ?_
    refine wpAny_pure ?_
    rw [e2]
    refine hR _ fun p hp => ?_
    rcases List.mem_append.mp hp with hp | hp
    · exact ht p hp
    · obtain rfl := List.mem_singleton.mp hp
      exact ⟨rfl, rfl⟩
  · intro taken ht
    refine wpAny_bind (wpAny_of_eq (a := #[]) rfl ?_)
    have e1 : tooLong (((b :: b' :: bs).map List.toArray).toArray.foldl (fun x y => x + y.size) ((#[] : Array UInt8).size * (((b :: b' :: bs).map List.toArray).toArray.size - 1))) = false := by
      refine KBy.tooLong_not ?_
      rw [fold_flat]; simpa using hz
    refine wpAny_ite_false (decide_eq_false (by rw [e1]; decide)) ?_
    have e2 : joined #[] ((b :: b' :: bs).map List.toArray).toArray.toList = (b :: b' :: bs).flatten.toArray := by
      unfold joined
      have := joined_flat (b :: b' :: bs) 0 #[]
      simpa using this
    rw [e2]
    show wpAny _ _ (mkBytes _ >>= _) _ _ _
    refine wpAny_bind (wpAny_mkBytes ?_)
    refine wpAny_bind (wpAny_holding (wpAny_point (wpAny_bind (let_go_ok ?_ taken ht))))
    exact wpAny_pure ⟨_, rfl, h _ _⟩
end
end Mine
end

noncomputable section
open PySem PySem.W PyProof.Rows PySem.Calls PySem.Spec PySem.SeqAt PySem.Builtin
set_option maxRecDepth 100000
namespace Mine

section
variable {prog : Program} {K : Frag} {τ : List (Addr × List Value)} {B : Bx} {Φ : Fn} {n : Nat}

theorem se_blt (G : Gx K τ B) {x : Bl} {px p : Pos} {es : Es} (he : SEs prog τ B Φ n es) : SEv prog τ B Φ n (.blt x px es p) := fun C lk gl A W st s Q X Q' E' Z ok hA hτ T h kv kx => by
  simp only [oq24, Bool.and_eq_true] at ok
  simp only [wq24] at h
  refine Call_Name rfl (load_blt Z G T ok.1 (G.k.blt x) x.boot x.nn ?_)
  have pl := stars_plain C.env p ok.2
  have args := he C lk gl A W st s _ _ (fun vs s₁ => wpAny (model prog B.w) A (call x.val vs) Q' E' s₁) E' p Z ok.2 hA hτ T h (fun W₁ st₁ s₁ l vs l₁ T₁ r₁ e₁ h₁ => blt_ok G hA T₁ r₁ h₁ fun _ _ _ _ _ l₂ => kv _ _ _ _ _ (l₁.trans l₂)) kx
  cases x <;> first | exact callWith_builtin pl (args_ok ok.2 args) | exact PyProof.Rows.callWith_type pl (args_ok ok.2 args)

theorem call_methO {env : Env} {A : Around} {s : Shared} {lk : LK} {gl : Str → Bool} {o : PySem.Expr} {x : Str} {es : Es} {pa p : Pos} {Q' E' : Value → Shared → Prop} (oe : okEs lk gl es = true) (os : attributeBase o x env (eval o env) = eval o env) (oz : lenEs es < 25) (ol : (pa.endLine == p.line) = true)
    (h : wpAny (model prog B.w) A (eval o env) (fun ov s₁ => ∃ f first, (∀ (Q : Value × List Value → Shared → Prop) (E : Value → Shared → Prop) pl, Q (f, first) s₁ → wpAny (model prog B.w) A (getMethod ov x pl) Q E s₁) ∧
      wpAny (model prog B.w) A (callWith p f first (backTo p (starEach (embs es) env)) []) Q' E' s₁) E' s) :
    wpAny (model prog B.w) A (eval (.Call (.Attribute o x pa) (embs es) [] p) env) Q' E' s := by
  rw [arm_eval_Call, os]
  refine wpAny_bind (wpAny_mono h (fun ov s₁ h₁ => wpAny_bind (wpAny_standAt ?_)) fun _ _ x => x)
  obtain ⟨f, first, hm, hc⟩ := h₁
  unfold methodCall
  rw [form_ok oe oz]
  refine wpAny_bind (wpAny_holding (hm _ _ _ ?_))
  have hpos : methodCallPos true o env pa p = pure p := by unfold methodCallPos; simp [beq_iff_eq.mp ol]
  exact wpAny_bind (wpAny_of_eq hpos hc)
theorem call_meth {C : Cx} {A : Around} {s : Shared} {lk : LK} {gl : Str → Bool} {a : E} {x : Str} {es : Es} {pa p : Pos} {Q' E' : Value → Shared → Prop} (oe : okEs lk gl es = true) (os : noSup a = true) (oz : lenEs es < 25) (ol : (pa.endLine == p.line) = true)
    (h : wpAny (model prog B.w) A (eval (emb a) C.env) (fun ov s₁ => ∃ f first, (∀ (Q : Value × List Value → Shared → Prop) (E : Value → Shared → Prop) pl, Q (f, first) s₁ → wpAny (model prog B.w) A (getMethod ov x pl) Q E s₁) ∧
      wpAny (model prog B.w) A (callWith p f first (backTo p (starEach (embs es) C.env)) []) Q' E' s₁) E' s) :
    wpAny (model prog B.w) A (eval (.Call (.Attribute (emb a) x pa) (embs es) [] p) C.env) Q' E' s := call_methO oe (base_ok os _ _) oz ol h

theorem call_meth1 {C : Cx} {A : Around} {s : Shared} {lk : LK} {gl : Str → Bool} {a e : E} {x : Str} {pa p : Pos} {Q' E' : Value → Shared → Prop} {id : String} (oe : okE lk gl e = true) (or : isRaw e = false) (os : noSup a = true) (ol : (pa.endLine == p.line) = true)
    (h : wpAny (model prog B.w) A (eval (emb a) C.env) (fun ov s₁ => (∀ (Q : Value × List Value → Shared → Prop) (E : Value → Shared → Prop) pl, Q (.builtin id, [ov]) s₁ → wpAny (model prog B.w) A (getMethod ov x pl) Q E s₁) ∧
      wpAny (model prog B.w) A (eval (emb e) C.env) (fun y s₂ => wpAny (model prog B.w) A (call (.builtin id) [ov, y]) Q' E' s₂) E' s₁) E' s) :
    wpAny (model prog B.w) A (eval (.Call (.Attribute (emb a) x pa) [emb e] [] p) C.env) Q' E' s := by
  have oe' : okEs lk gl (.cons e .nil) = true := by simp [oqs0, oqs1, oe, or]
  refine call_meth (es := .cons e .nil) (lk := lk) (gl := gl) oe' os (of_decide_eq_true rfl) ol (wpAny_mono h (fun ov s₁ h₁ => ⟨_, _, h₁.1, ?_⟩) fun _ _ x => x)
  refine callWith_builtin (stars_plain C.env p oe') (args_ok oe' ?_)
  exact wpAny_items_cons (wpAny_mono h₁.2 (fun y s₂ h₂ => wpAny_items_nil h₂) fun _ _ x => x) (star_ok or _ _)

theorem dict_mapSeq (o : Obj) (f : Array Value → Array Value) : (Obj.mapSeq f o).dict = o.dict := by
  obtain ⟨c, d, dt, sl⟩ := o
  cases dt <;> rfl
theorem append_list {A : Around} {E : Value → Shared → Prop} {s : Shared} {l : Addr} {its : Array Value} {x : Value} {Q : Value → Shared → Prop} (hl : ListAt s.heap l its)
    (hQ : ∀ h', ListAt h' l (its.push x) → Heap.SameBut l s.heap h' → Q .none { s with heap := h' }) (hsz : its.size ≤ sizeLine) :
    wpAny (model prog B.w) A (call (.builtin "list.append") [.ref l, x]) Q E s := by
  obtain ⟨o, ho, hc, hdn, n, hd⟩ := id hl
  obtain ⟨n', hd'⟩ := Obj.data_mapSeq hd (·.push x)
  refine wpAny_call_entry slot_list_append hl.isList.typeIs entry_list_append ?_ (args_list_append _ _)
  show wpAny _ _ (updateSeq l (·.push x) >>= fun _ => ret .none) _ _ s
  exact wpAny_bind (wpAny_updateSeq ho hd (wpAny_pure ⟨.none, rfl, hQ _ ⟨_, Heap.get?_update_self _ ho (Obj.isFreed_of_seq hd'), (Obj.cls_mapSeq ..).trans hc, (dict_mapSeq _ _).trans hdn, n', hd'⟩ (Heap.SameBut.update ..)⟩) (hz := hsz))
theorem set_list {A : Around} {E : Value → Shared → Prop} {s : Shared} {l : Addr} {items : Array Value} {k : Int} {t : Tok} {v : Value} {Q : Unit → Shared → Prop} (hl : ListAt s.heap l items) (h0 : 0 ≤ k) (hfit : k < 2 ^ 63) (hn : k < items.size)
    (hQ : ∀ h', ListAt h' l (items.setIfInBounds k.toNat v) → Heap.SameBut l s.heap h' → Q () { s with heap := h' }) : wpAny (model prog B.w) A (setItem (.ref l) (.int k t) v) Q E s := by
  have hl' := hl.isList
  obtain ⟨o, ho, hc, hdn, ne, hd⟩ := id hl
  unfold setItem
  try with_reducible refine wpAny_holding ?_
  first | refine wpAny_bind (wpAny_pure ?_) | skip
  refine wpAny_bind (wpAny_sequenceKey hl'.typeIs (by decide) ?_)
  refine wpAny_bind (wpAny_callSpecial?_slot (name := Str.ofString "__setitem__") hl'.typeIs slot_list_setitem
    (wpAny_call_entry slot_list_setitem hl'.typeIs entry_list_setitem ?_ (args_list_setitem _ _ _)))
  show wpAny _ _ (Builtin.List.listSubscript? (.int k t) >>= _) _ _ s
  refine wpAny_bind (wpAny_listSubscript_int (fitsIndex_of h0 hfit) ?_)
  clear hfit
  obtain ⟨j, rfl⟩ := Int.eq_ofNat_of_zero_le h0
  have hj : j < items.size := by omega
  have hx' : items[j]? = some items[j] := Array.getElem?_eq_getElem hj
  show wpAny _ _ ((seqItemAt l j >>= fun r => pure (r.map (j, ·))) >>= _) _ _ s
  refine wpAny_bind (wpAny_bind (wpAny_seqItemAt ho hd (wpAny_pure ?_)))
  rw [hx']
  show wpAny _ _ (setSeqItemAt l j v >>= _) _ _ s
  obtain ⟨n', hd'⟩ := Obj.data_mapSeq hd (·.setIfInBounds j v)
  have hfin : ListAt (s.heap.update l (Obj.mapSeq (·.setIfInBounds j v))) l (items.setIfInBounds j v) :=
    ⟨_, Heap.get?_update_self _ ho (Obj.isFreed_of_seq hd'), (Obj.cls_mapSeq ..).trans hc, (dict_mapSeq _ _).trans hdn, n', hd'⟩
  refine wpAny_bind (wpAny_setSeqItemAt ho hd ?_)
  first
    | exact wpAny_bind (wpAny_pure (wpAny_pure ⟨.none, rfl, wpAny_pure (hQ _ hfin (Heap.SameBut.update ..))⟩))
    | exact wpAny_pure ⟨.none, rfl, wpAny_pure (hQ _ hfin (Heap.SameBut.update ..))⟩

theorem se_app {a e : E} {pa p : Pos} (ha : SEv prog τ B Φ n a) (he : SEv prog τ B Φ n e) : SEv prog τ B Φ n (.app a e pa p) := fun C lk gl A W st s Q X Q' E' Z ok hA hτ T h kv kx => by
  simp only [oq25, Bool.and_eq_true, Bool.not_eq_true'] at ok
  obtain ⟨⟨⟨⟨oa, oe⟩, os⟩, or⟩, ol⟩ := ok
  simp only [wq25] at h
  refine call_meth1 (id := "list.append") oe or os ol (ha C lk gl A W st s _ _ _ _ Z oa hA hτ T h.2 (fun W₁ st₁ s₁ av v l₁ T₁ r₁ h₁ => ?_) kx)
  replace h₁ := isO_inv h₁; obtain ⟨j, rfl, h₁⟩ := h₁
  replace h₁ := atL_inv h₁; obtain ⟨l₀, hl₀, h₁⟩ := h₁
  obtain ⟨a, r, rfl, hj₁⟩ := VR.inv_o r₁
  refine ⟨fun Q₂ E₂ pl hq => ?_, ?_⟩
  · obtain ⟨q, hq', a, us, rfl, ⟨o, ho, hc, hdn, m, hd⟩, hvs, hz⟩ := T₁.objs.at_ _ _ hl₀
    rw [hj₁] at hq'; cases hq'
    exact getMethod_list_append ho hc hdn hq
  · refine he C lk gl A W₁ st₁ s₁ _ X _ E' Z oe hA (tle hτ l₁) T₁ h₁ (fun W₂ st₂ s₂ bv u l₂ T₂ r₂ h₂ => ?_) (kx.mono l₁)
    replace h₂ : atL st₂.hp[j]? _ := h₂
    replace h₂ := atL_inv h₂; obtain ⟨l, hl, h₂⟩ := h₂
    have hj := l₂.at hj₁
    obtain ⟨q, hq, a, us, rfl, xl, hvs, hz⟩ := T₂.objs.at_ _ _ hl
    rw [hj] at hq; cases hq
    obtain ⟨o, ho, hc, hdn, m, hd⟩ := id xl
    refine append_list xl (fun h' hl' hs' => ?_) (by rw [List.size_toArray, hvs.length, sizeLine_eq]; omega)
    refine kv W₂ _ _ _ _ (l₁.trans l₂) (T₂.setObj (r := [_]) (o' := .list (l ++ [bv])) (tk := s₂.toks) hj (.head _) ho (.inl hc) (by rw [hd]; intro _ e; cases e) (by rw [hd]; intro _ e; cases e) hs' ⟨_, us ++ [u], rfl, by simpa using hl', hvs.app (.cons r₂ .nil), by rw [List.length_append, List.length_singleton]; omega⟩) .none h₂.2

theorem get_join {A : Around} {s : Shared} {E : Value → Shared → Prop} {b : Array UInt8} {t : Tok} {pl : Sem Bool} {Q : Value × List Value → Shared → Prop} (h : Q (.builtin "bytes.join", [.bytes b t]) s) : wpAny (model prog B.w) A (getMethod (.bytes b t) "join" pl) Q E s :=
  getMethod_builtin (T := "bytes") (typeIs_bytes s b t) FB.plainAttrs_bytes slot_bytes_join type_bytes_join (fun _ e => nomatch e) h
theorem joiQ_str {x : Str} {e : AV} {hp : Hp} {P : AV → Prop} (h : joiQ (.str x) e hp P) : x.length ≤ 16 ∧ ∃ j l ss, e = .obj j ∧ hp[j]? = some (.list l) ∧ strsOf l = some ss ∧ (ss.map (·.length)).sum + ss.length ≤ 1048576 ∧ (Txt.join x ss).length ≤ 16777216 ∧ P (.str (Txt.join x ss)) := by
  replace h := isO_inv h; obtain ⟨j, rfl, hx, h⟩ := h
  replace h := atL_inv h; obtain ⟨l, hl, ss, q⟩ := h
  exact ⟨hx, j, l, ss, rfl, hl, q⟩
theorem joiQ_bytes {x : List UInt8} {e : AV} {hp : Hp} {P : AV → Prop} (h : joiQ (.bytes x) e hp P) : x = [] ∧ ∃ j l ss, e = .obj j ∧ hp[j]? = some (.list l) ∧ bytesOf l = some ss ∧ ss.flatten.length ≤ 16777216 ∧ P (.bytes ss.flatten) := by
  replace h := isO_inv h; obtain ⟨j, rfl, hx, h⟩ := h
  replace h := atL_inv h; obtain ⟨l, hl, ss, q⟩ := h
  exact ⟨hx, j, l, ss, rfl, hl, q⟩
theorem se_joi {a e : E} {pa p : Pos} (ha : SEv prog τ B Φ n a) (he : SEv prog τ B Φ n e) : SEv prog τ B Φ n (.joi a e pa p) := fun C lk gl A W st s Q X Q' E' Z ok hA hτ T h kv kx => by
  simp only [oq26, Bool.and_eq_true, Bool.not_eq_true'] at ok
  obtain ⟨⟨⟨⟨oa, oe⟩, os⟩, or⟩, ol⟩ := ok
  simp only [wq26] at h
  have hb := ha C lk gl A W st s _ X (fun v s₁ => ∃ av W₁ st₁, W.le W₁ ∧ Stt B C W₁ st₁ s₁ ∧ VR W₁ av v ∧ isSB av (wp Φ C.hnd.isSome false e st₁ (fun ve st₂ => joiQ av ve st₂.hp fun v => Q v st₂) X)) E' Z oa hA hτ T h.2 (fun W₁ st₁ s₁ av v l₁ T₁ r₁ h₁ => ⟨av, W₁, st₁, l₁, T₁, r₁, h₁⟩) kx
  refine call_meth (es := .cons e .nil) (lk := lk) (gl := gl) (by simp [oqs0, oqs1, oe, or]) os (of_decide_eq_true rfl) ol (wpAny_mono hb (fun v s₁ h₁ => ?_) fun _ _ x => x)
  obtain ⟨av, W₁, st₁, l₁, T₁, r₁, h₁⟩ := h₁
  have oe' : okEs lk gl (.cons e .nil) = true := by simp [oqs0, oqs1, oe, or]
  have road : ∀ {id : String} {Q₃ : AV → St → Prop}, (∀ (Q₂ : Value × List Value → Shared → Prop) (E₂ : Value → Shared → Prop) pl, Q₂ (.builtin id, [v]) s₁ → wpAny (model prog B.w) A (getMethod v "join" pl) Q₂ E₂ s₁) → wp Φ C.hnd.isSome false e st₁ Q₃ X →
      (∀ W₂ st₂ s₂ bv u, W.le W₂ → Stt B C W₂ st₂ s₂ → VR W₂ bv u → Q₃ bv st₂ → wpAny (model prog B.w) A (call (.builtin id) [v, u]) Q' E' s₂) →
      ∃ f first, (∀ (Q : Value × List Value → Shared → Prop) (E : Value → Shared → Prop) pl, Q (f, first) s₁ → wpAny (model prog B.w) A (getMethod v "join" pl) Q E s₁) ∧ wpAny (model prog B.w) A (callWith p f first (backTo p (starEach (embs (.cons e .nil)) C.env)) []) Q' E' s₁ := fun g hw k =>
    ⟨_, _, g, callWith_builtin (stars_plain C.env p oe') (args_ok oe' (wpAny_items_cons (he C lk gl A W₁ st₁ s₁ _ _ _ _ Z oe hA (tle hτ l₁) T₁ hw (fun W₂ st₂ s₂ bv u l₂ T₂ r₂ h₂ => wpAny_items_nil (k W₂ st₂ s₂ bv u (l₁.trans l₂) T₂ r₂ h₂)) (kx.mono l₁)) (star_ok or _ _)))⟩
  cases av with
  | str x =>
    obtain ⟨t, rfl, hz⟩ := VR.inv_s r₁
    refine road (fun Q₂ E₂ pl hq => getMethod_builtin (typeIs_str _ _ _) F.plainAttrs_str F.slot_str_join F.type_str_join (fun _ e => nomatch e) hq) h₁ fun W₂ st₂ s₂ bv u l₂ T₂ r₂ h₂ => ?_
    obtain ⟨hx, j, l, ss, rfl, hl, hs, hw, hz', h₂⟩ := joiQ_str h₂
    obtain ⟨_, us, rfl, xl, hvs, hz⟩ := lst_at T₂ hl r₂
    exact join_listW xl (by simpa using strs_are hvs hs) hx hw fun t' k => kv W₂ st₂ _ _ _ l₂ T₂.tick (.str _ _ hz') h₂
  | bytes x =>
    obtain ⟨t, rfl, hz⟩ := VR.inv_y r₁
    refine road (fun Q₂ E₂ pl hq => get_join hq) h₁ fun W₂ st₂ s₂ bv u l₂ T₂ r₂ h₂ => ?_
    obtain ⟨rfl, j, l, ss, rfl, hl, hs, hz', h₂⟩ := joiQ_bytes h₂
    obtain ⟨_, us, rfl, xl, hvs, hz⟩ := lst_at T₂ hl r₂
    refine wpAny_call_entry slot_bytes_join (typeIs_bytes _ _ _) entry_bytes_join (joinM_ok xl (bytes_are hvs hs) hz' fun t' k => ?_) (args_bytes_join _ _)
    exact kv W₂ st₂ _ _ _ l₂ T₂.tick (.bytes _ _ hz') h₂
  | _ => exact h₁.elim

theorem isSt_ok {W : Wd} {a : AV} {v : Value} (r : VR W a v) {P : Str → Prop} (h : isSt a P) : ∃ x t, v = .str x t ∧ P x := by
  replace h := isSt_inv h; obtain ⟨x, rfl, h⟩ := h
  obtain ⟨t, rfl, _⟩ := VR.inv_s r
  exact ⟨_, _, rfl, h⟩
theorem se_fnd {a e : E} {pa p : Pos} (ha : SEv prog τ B Φ n a) (he : SEv prog τ B Φ n e) : SEv prog τ B Φ n (.fnd a e pa p) := fun C lk gl A W st s Q X Q' E' Z ok hA hτ T h kv kx => by
  simp only [oq27, Bool.and_eq_true, Bool.not_eq_true'] at ok
  obtain ⟨⟨⟨⟨oa, oe⟩, os⟩, or⟩, ol⟩ := ok
  simp only [wq27] at h
  refine Call_method1 (base_ok os _ _) ((star_ok or [] C.env).trans (by rfl)) ol (ha C lk gl A W st s _ _ _ _ Z oa hA hτ T h.2 (fun W₁ st₁ s₁ av v l₁ T₁ r₁ h₁ => ?_) kx)
  obtain ⟨x, t, rfl, h₁⟩ := isSt_ok r₁ h₁
  refine SB.find (he C lk gl A W₁ st₁ s₁ _ _ _ _ Z oe hA (tle hτ l₁) T₁ h₁ (fun W₂ st₂ s₂ bv u l₂ T₂ r₂ h₂ => ?_) (kx.mono l₁))
  obtain ⟨y, t', rfl, h₂⟩ := isSt_ok r₂ h₂
  exact ⟨y, t', rfl, kv W₂ st₂ _ _ _ (l₁.trans l₂) T₂.tick (.int _ _) h₂⟩

theorem se_dic0 {p : Pos} : SEv prog τ B Φ n (.dic0 p) := fun C lk gl A W st s Q X Q' E' Z ok hA hτ T h kv kx => by
  simp only [wq15] at h
  refine wpAny_Dict_empty ?_
  have le : W.le ⟨W.ρ ++ [[s.heap.objs.size]], W.τ⟩ := ⟨⟨_, rfl⟩, fun _ h => h⟩
  refine kv ⟨W.ρ ++ [[s.heap.objs.size]], W.τ⟩ _ _ _ _ le (T.addObj (o' := .dict [] 0) (fun b o e => Heap.get?_push_of_some _ e) (by simp) (by simp) ⟨_, [], rfl, ⟨_, Heap.get?_push_size _ rfl, ⟨rfl, rfl, rfl⟩, rfl⟩, .nil, by simp, by simp⟩) (.obj (r := []) ?_) (h.2 0)
  rw [← T.objs.len]; simp
end
end Mine
end

noncomputable section
open PySem PySem.W PyProof.Rows PySem.Calls PySem.Spec PySem.SeqAt PySem.Builtin
set_option maxRecDepth 100000
namespace Mine

inductive KR (W : Wd) : List (Str × AV) → List (Str × Value) → Prop
  | nil : KR W [] []
  | cons {k : Str} {a : AV} {v : Value} {d : List (Str × AV)} {kvs : List (Str × Value)} (hk : k.length ≤ 16777216) (h : VR W a v) (r : KR W d kvs) : KR W ((k, a) :: d) ((k, v) :: kvs)
theorem KR.keys {W : Wd} {d : List (Str × AV)} {kvs : List (Str × Value)} (r : KR W d kvs) : kvs.map (·.1) = d.map (·.1) := by
  induction r with
  | nil => rfl
  | cons _ _ _ ih => rw [List.map_cons, List.map_cons, ih]
theorem KR.length {W : Wd} {d : List (Str × AV)} {kvs : List (Str × Value)} (r : KR W d kvs) : kvs.length = d.length := by have := congrArg List.length r.keys; simpa using this

set_option tactic.hygienic true in
theorem dr_kr {prog : Program} {w : World} {W : Wd} {d : List (Str × AV)} {es : List DictEntry} (r : DR w.params W d es) : ∃ kvs, Pairs (PySem.strKind prog w) es kvs ∧ KR W d kvs := by
  induction r with
  | nil => exact ⟨[], .nil, .nil⟩
  | cons hk h r ih =>
    rename_i k t a v d es
    obtain ⟨kvs, p, e⟩ := ih
    exact ⟨(k, v) :: kvs, .cons (strKind_is prog w k t) rfl p, .cons hk h e⟩
theorem to_dictOf {prog : Program} {w : World} {W : Wd} {h : Heap} {a : Addr} {d : List (Str × AV)} {es : List DictEntry} {n : Nat} (x : DictAt h a es n) (r : DR w.params W d es) (nd : (d.map (·.1)).Nodup) : ∃ kvs, h.DictOf (PySem.strKind prog w) a kvs ∧ KR W d kvs := by
  obtain ⟨o, ho, hx, hd⟩ := x
  obtain ⟨kvs, p, k⟩ := dr_kr (prog := prog) r
  exact ⟨kvs, ⟨o, es.toArray, n, ho, hx, hd, dr_keys r, by simpa using p, by rw [k.keys]; exact nd⟩, k⟩
set_option tactic.hygienic true in
theorem of_dictOf {prog : Program} {w : World} {W : Wd} {h : Heap} {a : Addr} {d : List (Str × AV)} {kvs : List (Str × Value)} (x : h.DictOf (PySem.strKind prog w) a kvs) (r : KR W d kvs) : (∃ es n, DictAt h a es n ∧ DR w.params W d es) ∧ (d.map (·.1)).Nodup := by
  obtain ⟨o, es, n, ho, hx, hd, hk, hp, hn⟩ := x
  refine ⟨⟨es.toList, n, ⟨o, ho, hx, by simpa using hd⟩, ?_⟩, by rw [← r.keys]; exact hn⟩
  have hk : ∀ e ∈ es.toList, ∃ k, (PySem.strKind prog w).is k e.key = true ∧ e.hash = (PySem.strKind prog w).hash k := fun e he => hk e (by simpa using he)
  generalize es.toList = l at hp hk
  clear hd hn
  induction r generalizing l with
  | nil => cases hp; exact .nil
  | cons hk' h r ih =>
    cases hp with
    | cons h1 h2 hp =>
      rename_i k a v d kvs e l
      have : ∃ t, e.key = .str k t := by
        have h1 : Value.isStrOf k e.key = true := by simpa [PySem.strKind] using h1
        cases q : e.key with
        | str y t => rw [q] at h1; simp only [Value.isStrOf, beq_iff_eq] at h1; exact ⟨t, by rw [h1]⟩
        | _ => rw [q] at h1; cases h1
      obtain ⟨t, ht⟩ := this
      obtain ⟨k', hk1, hk2⟩ := hk e (.head _)
      have e1 : k' = k := by
        have hk1 : Value.isStrOf k' e.key = true := by simpa [PySem.strKind] using hk1
        rw [ht] at hk1
        simp only [Value.isStrOf, beq_iff_eq] at hk1
        exact hk1.symm
      subst e1
      have : e = ⟨PyData.keyHash w.params k', .str k' t, v⟩ := by
        obtain ⟨eh, ek, ev⟩ := e
        dsimp only at ht hk2 h2
        subst ht hk2 h2
        rfl
      rw [this]
      exact .cons hk' h (ih l hp fun e he => hk e (.tail _ he))

set_option tactic.hygienic true in
theorem kr_dput {W : Wd} {d : List (Str × AV)} {kvs : List (Str × Value)} (r : KR W d kvs) (nd : (d.map (·.1)).Nodup) {k : Str} {a : AV} {v : Value} (hk : k.length ≤ 16777216) (hv : VR W a v) : KR W (dput k a d) (stored kvs k v) := by
  induction r with
  | nil => exact .cons hk hv .nil
  | cons hk' h r ih =>
    rename_i x u y d kvs
    rw [List.map_cons, List.nodup_cons] at nd
    show KR W (if x = k then (x, a) :: d else (x, u) :: dput k a d) _
    unfold stored
    by_cases e : x = k
    · subst e
      have h2 : kvs.map (fun kv => if kv.1 = x then (kv.1, v) else kv) = kvs := by
        have : ∀ kv ∈ kvs, (if kv.1 = x then (kv.1, v) else kv) = kv := fun kv hkv => by
          rw [if_neg]
          rintro rfl
          exact nd.1 (by rw [← r.keys]; exact List.mem_map.mpr ⟨kv, hkv, rfl⟩)
        exact (List.map_congr_left this).trans (List.map_id _)
      simp only [List.any_cons, decide_true, Bool.true_or, if_true, List.map_cons, if_true]
      rw [h2]
      exact .cons hk' hv r
    · have e1 : decide (x = k) = false := decide_eq_false e
      simp only [List.any_cons, e1, Bool.false_or, if_neg e]
      have ih := ih nd.2
      unfold stored at ih
      by_cases c : kvs.any (fun kv => decide (kv.1 = k)) = true
      · rw [if_pos c] at ih ⊢
        simp only [List.map_cons, if_neg e]
        exact .cons hk' h ih
      · rw [if_neg c] at ih ⊢
        exact .cons hk' h ih
theorem dput_len (k : Str) (a : AV) (d : List (Str × AV)) : (dput k a d).length ≤ d.length + 1 := by
  induction d with
  | nil => exact Nat.le_refl _
  | cons p r ih =>
    obtain ⟨x, u⟩ := p
    show (if x = k then (x, a) :: r else (x, u) :: dput k a r).length ≤ r.length + 1 + 1
    by_cases e : x = k
    · rw [if_pos e]; exact Nat.le_succ _
    · rw [if_neg e]; exact Nat.succ_le_succ ih

section
variable {prog : Program} {K : Frag} {τ : List (Addr × List Value)} {B : Bx} {Φ : Fn} {n : Nat}

theorem new_dict {C : Cx} {W : Wd} {st : St} {s : Shared} (T : Stt B C W st s) {d : List (Str × AV)} {kvs : List (Str × Value)} {h' : Heap} {tk : Nat} (k : ∀ b o, s.heap.get? b = some o → h'.get? b = some o) {D : Addr} (hD : s.heap.objs.size ≤ D)
    (hd : h'.DictOf (PySem.strKind prog B.w) D kvs) (r : KR W d kvs) (hz : d.length ≤ 1000000) :
    ∃ W' n, W.le W' ∧ Stt B C W' ⟨st.loc, st.hp ++ [.dict d n]⟩ { s with heap := h', toks := tk } ∧ VR W' (.obj st.hp.length) (.ref D) := by
  have le : W.le ⟨W.ρ ++ [[D]], W.τ⟩ := ⟨⟨_, rfl⟩, fun _ h => h⟩
  obtain ⟨⟨es, n, h1, h2⟩, h3⟩ := of_dictOf hd r
  exact ⟨_, n, le, T.addObj (r := [D]) k (by simpa using hD) (by simp) ⟨D, es, rfl, h1, h2.mono le, hz, h3⟩, .obj (r := []) (by rw [← T.objs.len]; simp)⟩

theorem se_dic1 {k v : Str} {pk pv p : Pos} : SEv prog τ B Φ n (.dic1 k v pk pv p) := fun C lk gl A W st s Q X Q' E' Z ok hA hτ T h kv kx => by
  simp only [wq16] at h
  obtain ⟨-, hk, hv, h⟩ := h
  refine wpAny_Dict_pairs (knd := PySem.strKind prog B.w) (keys := [some (.Constant (.str k) 0 pk)]) (values := [.Constant (.str v) 0 pv]) (pairs := [(eval (.Constant (.str k) 0 pk) C.env, (do let x ← eval (.Constant (.str v) 0 pv) C.env; standAt p; pure x))]) rfl (by simp) (by simp) ?_
  refine evalPairs_cons (wpAny_Constant_str (wpAny_bind (wpAny_Constant_str (wpAny_bind (wpAny_standAt (wpAny_pure (evalPairs_nil ?_)))))))
  refine ⟨[(k, .str v (s.toks + 1))], ⟨strKind_is _ _ _ _, rfl, trivial⟩, Heap.DictOf.new s.heap, fun h' hd hs => ?_⟩
  have up : ∀ b o, s.heap.get? b = some o → h'.get? b = some o := fun b o e => hs.extBut b o (Nat.ne_of_lt (Heap.lt_size e)) (Heap.get?_push_of_some _ e)
  obtain ⟨W', n', l', T', r'⟩ := new_dict (tk := s.toks + 1 + 1 + 1) T up (Nat.le_refl _) hd (d := [(k, .str v)]) (.cons (by omega) (.str _ _ (by omega)) .nil) (by simp)
  exact kv W' _ _ _ _ l' T' r' (h n')

theorem shape1 (a b : PySem.Expr) (p : Pos) (env : Env) : (evalEachOpt [some a] env).zip ((evalEach [b] env).map fun v => do let x ← v; standAt p; pure x) = [(eval a env, (do let x ← eval b env; standAt p; pure x))].map fun q => (some q.1, q.2) := rfl
theorem int_dict {A : Around} {s : Shared} {env : Env} {E : Value → Shared → Prop} {k v : Int} {pk pv pd : Pos} {Q : Value → Shared → Prop}
    (h : ∀ h', h'.DictOf (PySem.intKind prog B.w) s.heap.objs.size [(k, .int v (s.toks + 1))] → Heap.SameBut s.heap.objs.size (s.heap.push { cls := .type "dict", data := .dict #[] }) h' → Q (.ref s.heap.objs.size) { s with heap := h', toks := s.toks + 1 + 1 + 1 }) :
    wpAny (model prog B.w) A (eval (.Dict [some (.Constant (.int k) 0 pk)] [.Constant (.int v) 0 pv] pd) env) Q E s := by
  refine wpAny_Dict_pairs (knd := PySem.intKind prog B.w) (pairs := [(eval (.Constant (.int k) 0 pk) env, (do let x ← eval (.Constant (.int v) 0 pv) env; standAt pd; pure x))]) (shape1 _ _ _ _) (by simp) (by simp) ?_
  refine evalPairs_cons (wpAny_Constant_int (wpAny_bind (wpAny_Constant_int (wpAny_bind (wpAny_standAt (wpAny_pure (evalPairs_nil ?_)))))))
  exact ⟨[(k, .int v (s.toks + 1))], ⟨intKind_is _ _ _ _, rfl, trivial⟩, Heap.DictOf.new s.heap, fun h' hd hs => h h' hd hs⟩
theorem base_dict (ks : List (Option PySem.Expr)) (vs : List PySem.Expr) (p : Pos) (x : Str) (env : Env) : attributeBase (.Dict ks vs p) x env (eval (.Dict ks vs p) env) = eval (.Dict ks vs p) env := rfl
theorem se_dget (G : Gx K τ B) {k v : Int} {pk pv pd : Pos} {x : Str} {i : Nat} {px : Pos} {j : Int} {pj pa p : Pos} : SEv prog τ B Φ n (.dget k v pk pv pd x i px j pj pa p) := fun C lk gl A W st s Q X Q' E' Z ok hA hτ T h kv kx => by
  simp only [oq28, Bool.and_eq_true] at ok
  rw [wq28] at h
  obtain ⟨-, h⟩ := h
  rcases hm : st.loc[i]? with _ | _ | w
  · rw [hm] at h; exact h.elim
  · rw [hm] at h; exact h.elim
  rw [hm] at h
  replace h : ∃ m, w = .int m ∧ ifB (decide (m = k)) (Q (.int v) st) (Q (.int j) st) := by cases w <;> first | exact ⟨_, rfl, h⟩ | exact h.elim
  obtain ⟨m, rfl, h⟩ := h
  have lo : (s.heap.objs.size == sysModules) = false := by
    refine beq_eq_false_iff_ne.mpr fun e => ?_
    exact absurd (B.low T.stays) (by rw [e]; exact Nat.lt_irrefl _)
  have oe : okEs lk gl (.cons (.loc x i px) (.cons (.con (.int j) 0 pj) .nil)) = true := by show (lkI lk i x && true && (true && true && true)) = true; rw [ok.1]; rfl
  show wpAny _ _ (eval (.Call (.Attribute (.Dict [some (.Constant (.int k) 0 pk)] [.Constant (.int v) 0 pv] pd) "get" pa) [.Name x px, .Constant (.int j) 0 pj] [] p) C.env) _ _ _
  have ee : embs (.cons (.loc x i px) (.cons (.con (.int j) 0 pj) .nil)) = [.Name x px, .Constant (.int j) 0 pj] := rfl
  rw [← ee]
  have b1 := base_dict [some (.Constant (.int k) 0 pk)] [.Constant (.int v) 0 pv] pd "get" C.env
  have b2 : lenEs (.cons (.loc x i px) (.cons (.con (.int j) 0 pj) .nil)) < 25 := of_decide_eq_true rfl
  have b3 := @call_methO prog B C.env A s lk gl (.Dict [some (.Constant (.int k) 0 pk)] [.Constant (.int v) 0 pv] pd) "get" (.cons (.loc x i px) (.cons (.con (.int j) 0 pj) .nil)) pa p Q' E' oe b1 b2 ok.2
  refine b3 ?_
  refine int_dict (prog := prog) ?_
  intro h' hd hs
  have up : ∀ b o, s.heap.get? b = some o → h'.get? b = some o := fun b o e => hs.extBut b o (Nat.ne_of_lt (Heap.lt_size e)) (Heap.get?_push_of_some _ e)
  have T' := T.ext (tk := s.toks + 1 + 1 + 1) up
  refine ⟨.builtin "dict.get", [.ref s.heap.objs.size], fun Q₂ E₂ pl hq => getMethod_builtin hd.typeIs F.plainAttrs_dict F.slot_dict_get F.type_dict_get hd.mapOf.noDict hq, wpAny_dict_get2 (knd := PySem.intKind prog B.w) (x := eval (.Name x px) C.env) (y := eval (.Constant (.int j) 0 pj) C.env) lo ?_⟩
  refine load_loc Z T' ok.1 hm fun u ru => ?_
  obtain ⟨_, rfl⟩ := VR.inv_i ru
  refine wpAny_Constant_int ⟨m, _, intKind_is _ _ _ _, hd.mapOf, ?_⟩
  have e2 : valueAt [(k, Value.int v (s.toks + 1))] m = if k = m then some (.int v (s.toks + 1)) else none := by
    unfold valueAt
    by_cases q : k = m <;> simp [q]
  rw [e2]
  by_cases q : k = m
  · rw [if_pos q]
    exact kv W _ _ _ _ (.refl W) (T'.tick (tk := _)) (.int _ _) (by rw [decide_eq_true (show m = k from q.symm)] at h; exact h)
  · rw [if_neg q]
    exact kv W _ _ _ _ (.refl W) (T'.tick (tk := _)) (.int _ _) (by rw [decide_eq_false (show ¬ m = k from fun e => q e.symm)] at h; exact h)
end
end Mine
end

noncomputable section
open PySem PySem.W PyProof.Rows PySem.Calls PySem.Spec PySem.SeqAt PySem.Builtin
set_option maxRecDepth 100000
namespace Mine

section
variable {prog : Program} {B : Bx} {C : Cx} {lk : LK} {gl : Str → Bool} {A : Around} {E : Value → Shared → Prop} {W : Wd} {st : St} {s : Shared} {n : Nat}

noncomputable def Cx.out (C : Cx) (p : Addr × Obj) : Cx := { C with outs := p :: C.outs }

theorem Stt.drop {p : Addr × Obj} (T : Stt B (C.out p) W st s) : Stt B C W st s :=
  { gens := T.gens, drawn := T.drawn, os := T.os, stays := T.stays, loc := T.loc, cel := T.cel, outer := T.outer, outs := fun q hq => T.outs q (.tail _ hq), objs := T.objs, tups := T.tups, nodup := T.nodup
    fresh := fun a ha => let ⟨x, y, z, w⟩ := T.fresh a ha; ⟨x, y, z, fun q hq => w q (.tail _ hq)⟩
    here := ⟨T.here.1, T.here.2.1, fun q hq => T.here.2.2 q (.tail _ hq)⟩, hnd := T.hnd }
theorem Stt.out (T : Stt B C W st s) {I : Addr} {o : Obj} (h : s.heap.get? I = some o) (f : ∀ a ∈ W.ρ.flatten, I ≠ a) (l : I ≠ C.env.locals) : Stt B (C.out (I, o)) W st s :=
  { gens := T.gens, drawn := T.drawn, os := T.os, stays := T.stays, loc := T.loc, cel := T.cel, outer := T.outer
    outs := fun q hq => (List.mem_cons.mp hq).elim (fun e => by subst e; exact h) (T.outs q), objs := T.objs, tups := T.tups, nodup := T.nodup
    fresh := fun a ha => let ⟨x, y, z, w⟩ := T.fresh a ha; ⟨x, y, z, fun q hq => (List.mem_cons.mp hq).elim (fun e => by subst e; exact f a ha) (w q)⟩
    here := ⟨T.here.1, T.here.2.1, fun q hq => (List.mem_cons.mp hq).elim (fun e => by subst e; exact l) (T.here.2.2 q)⟩, hnd := T.hnd }
theorem Stt.outAt {p : Addr × Obj} (T : Stt B (C.out p) W st s) : s.heap.get? p.1 = some p.2 := T.outs p (.head _)
theorem Stt.outFresh {p : Addr × Obj} (T : Stt B (C.out p) W st s) : ∀ a ∈ W.ρ.flatten, p.1 ≠ a := fun a ha => (T.fresh a ha).2.2.2 p (.head _)
theorem XOk.drop {p : Addr × Obj} {c : Nat} {e : Addr} (x : XOk B (C.out p) c e s) : XOk B C c e s := by
  obtain ⟨a, b, o, oe, vs, h1, h2, h3, h4, h5⟩ := x
  refine ⟨a, b, fun q hq => o q (.tail _ hq), oe, vs, h1, h2, h3, h4, h5.elim .inl fun ⟨T, oT, ts, fl, y1, y2, y3, y⟩ => .inr ⟨T, oT, ts, fl, y1, y2, fun q hq => y3 q (.tail _ hq), y⟩⟩
theorem CxOk.out (Z : CxOk B C lk gl) {p : Addr × Obj} (h : ∀ es n, p.2.data ≠ .dict es n) : CxOk B (C.out p) lk gl :=
  { kind := Z.kind, globals := Z.globals, builtins := Z.builtins, lk := Z.lk, nm := Z.nm, inj := Z.inj, nc := Z.nc, cl := Z.cl, gl := Z.gl
    outs := fun q hq => (List.mem_cons.mp hq).elim (fun e => by subst e; exact h) (Z.outs q), frs := Z.frs }
theorem AOk.out (hA : AOk C A n) (p : Addr × Obj) : AOk (C.out p) A n := ⟨hA.frames, hA.depth, hA.units, hA.handled⟩

theorem Stt.extBut (T : Stt B C W st s) {I : Addr} {o : Obj} {vs : Array Value} {h' : Heap} {tk : Nat} (ho : s.heap.get? I = some o) (hd : o.data = .fields vs) (hb : B.base.get? I = none) (hf : ∀ a ∈ W.ρ.flatten, I ≠ a)
    (hq : ∀ q ∈ C.outs, q.1 ≠ I) (hn : C.hnd ≠ some I) (k : Heap.ExtBut I s.heap h') : Stt B C W st { s with heap := h', toks := tk } := by
  refine T.up ?_ (fun a ha o e => k a o (hf a ha).symm e) (fun b o e => k b o (fun q => by rw [q, hb] at e; cases e) (T.stays b o e)) (T.hnd.at fun b e o h => k b o (fun q => hn (by rw [e, q])) h) fun q h o e => k q.1 o (hq q h) e
  intro b o' e nf
  refine ⟨o'.slots, k b o' ?_ e⟩
  rintro rfl
  rw [ho] at e; cases e
  exact nf _ hd
end

section
variable {prog : Program} {B : Bx} {C : Cx} {lk : LK} {gl : Str → Bool} {A : Around} {E : Value → Shared → Prop} {W : Wd} {st : St} {s : Shared} {n : Nat}

structure FCx (C : Cx) : Prop where
  head : ∃ r, C.envs = C.env :: r
  frame : C.env.frame = some C.env.locals

noncomputable def XTb (B : Bx) (C : Cx) (c : Nat) (e : Addr) (fl : Value) (s : Shared) : Prop :=
  C.hnd = none ∧ B.base.get? e = none ∧ (∀ q ∈ C.outs, q.1 ≠ e) ∧ ∃ oe vs, s.heap.get? e = some oe ∧ oe.cls = .ref c ∧ oe.data = .fields vs ∧ vs[2]? = some .none ∧
    ∃ T oT ts, vs[1]? = some (.ref T) ∧ B.base.get? T = none ∧ (∀ q ∈ C.outs, q.1 ≠ T) ∧ T ≠ e ∧ s.heap.get? T = some oT ∧ oT.data = .fields ts ∧ ts[3]? = some fl
theorem XTb.ok {c : Nat} {e : Addr} {fl : Value} (x : XTb B C c e fl s) (h : fl = .none ∨ ∃ L, C.env.frame = some L ∧ fl = rawInt L) : XOk B C c e s := by
  obtain ⟨a, b, q, oe, vs, h1, h2, h3, h4, T, oT, ts, t1, t2, t3, t4, t5, t6, t7⟩ := x
  exact ⟨a, b, q, oe, vs, h1, h2, h3, h4, .inr ⟨T, oT, ts, fl, t1, t2, t3, t4, t5, t6, t7, h⟩⟩

theorem notRho (T : Stt B C W st s) {I : Addr} {o : Obj} {vs : Array Value} (ho : s.heap.get? I = some o) (hd : o.data = .fields vs) : ∀ a ∈ W.ρ.flatten, I ≠ a := by
  rintro a ha rfl
  obtain ⟨q, hq, haq⟩ := List.mem_flatten.mp ha
  obtain ⟨i, hi⟩ := List.getElem?_of_mem hq
  have hil : i < st.hp.length := by rw [← T.objs.len]; exact (List.getElem?_eq_some_iff.mp hi).1
  obtain ⟨q', hq', hoq⟩ := T.objs.at_ i _ (List.getElem?_eq_getElem hil)
  rw [hi] at hq'; cases hq'
  generalize st.hp[i] = o' at hoq
  cases o' with
  | list l => obtain ⟨b, vs, rfl, ⟨ob, hb, _, _, _, hd'⟩, _⟩ := hoq; simp at haq; subst haq; rw [ho] at hb; cases hb; rw [hd] at hd'; cases hd'
  | dict d n => obtain ⟨b, es, rfl, ⟨ob, hb, _, hd'⟩, _⟩ := hoq; simp at haq; subst haq; rw [ho] at hb; cases hb; rw [hd] at hd'; cases hd'
  | inst c l =>
    obtain ⟨b, dx, es, rfl, ⟨ob, hb, _, _, hd'⟩, ⟨od, n, hdx, _, _, hd''⟩, _⟩ := hoq
    simp at haq
    rcases haq with rfl | rfl
    · rw [ho] at hb; cases hb; rw [hd] at hd'; cases hd'
    · rw [ho] at hdx; cases hdx; rw [hd] at hd''; cases hd''

theorem fun_frames (Z : CxOk B C lk gl) (T : Stt B C W st s) : s.heap.FunFrames B.base C.envs := by
  have : ∀ l : List Env, (∀ env ∈ l, env ∈ C.envs) → s.heap.FunFrames B.base l := by
    intro l
    induction l with
    | nil => intro _; trivial
    | cons env r ih =>
      intro hl
      obtain ⟨k, L, hf, hL⟩ := Z.frs env (hl env (.head _))
      refine ⟨k, ⟨L, ?_⟩, ih fun e h => hl e (.tail _ h)⟩
      rcases hL with rfl | ⟨m, hm⟩
      · obtain ⟨m, ⟨o, es, n, ho, hd, _⟩, _⟩ := T.loc
        exact ⟨o, hf, T.here.1, ho, fun vs q => by rw [hd] at q; cases q⟩
      · obtain ⟨o, es, n, ho, hd, _⟩ := T.outer _ hm
        exact ⟨o, hf, (T.here.2.1 _ hm).2, ho, fun vs q => by rw [hd] at q; cases q⟩
  exact this _ fun _ h => h
theorem frame_mem (Z : CxOk B C lk gl) (T : Stt B C W st s) {a : Addr} (h : a ∈ C.envs.filterMap (·.frame)) : (∃ o es n, s.heap.get? a = some o ∧ o.data = .dict es n) ∧ B.base.get? a = none ∧ a ∉ W.ρ.flatten := by
  obtain ⟨env, he, hf⟩ := List.mem_filterMap.mp h
  obtain ⟨k, L, hL, hx⟩ := Z.frs env he
  obtain rfl : L = a := Option.some.inj (hL.symm.trans hf)
  rcases hx with rfl | ⟨m, hm⟩
  · obtain ⟨m, ⟨o, es, n, ho, hd, _⟩, _⟩ := T.loc
    exact ⟨⟨o, _, n, ho, hd⟩, T.here.1, fun q => (T.fresh _ q).2.1 rfl⟩
  · obtain ⟨o, es, n, ho, hd, _⟩ := T.outer _ hm
    exact ⟨⟨o, _, n, ho, hd⟩, (T.here.2.1 _ hm).2, fun q => (T.fresh _ q).2.2.1 _ hm rfl⟩

set_option tactic.hygienic true in
theorem Stt.slots (Z : CxOk B C lk gl) (T : Stt B C W st s) {h' : Heap} (k : Heap.SlotsOnly (C.envs.filterMap (·.frame)) s.heap h') : Stt B C W st { s with heap := h' } := by
  refine T.up (tk := s.toks) (fun b o e _ => k.2.2 b o e) (fun a ha o e => (k.2.1 a fun q => (frame_mem Z T q).2.2 ha).trans e)
    (fun b o e => (k.2.1 b fun q => by have := (frame_mem Z T q).2.1; rw [this] at e; cases e).trans (T.stays b o e)) (T.hnd.at fun b _ o e => ?_) (fun q hq o e => (k.2.1 q.1 fun h => ?_).trans e)
  · obtain ⟨sl, q⟩ := k.2.2 b o e
    by_cases hb : b ∈ C.envs.filterMap (·.frame)
    · exfalso
      obtain ⟨o', es, n, ho, hd⟩ := (frame_mem Z T hb).1
      have hh := T.hnd
      rename_i q'
      rw [q'] at hh
      obtain ⟨ox, vs, hx, hf, _⟩ := hh
      rw [ho] at hx; cases hx; rw [hd] at hf; cases hf
    · exact (k.2.1 b hb).trans e
  · obtain ⟨o', es, n, ho, hd⟩ := (frame_mem Z T h).1
    have := T.outs q hq
    rw [ho] at this; cases this
    exact Z.outs q hq es n hd

theorem Stt.extTwo (T : Stt B C W st s) {e : Addr} {o : Obj} {vs : Array Value} {h' : Heap} {tk : Nat} (hh : C.hnd = none) (ho : s.heap.get? e = some o) (hd : o.data = .fields vs) (hb : B.base.get? e = none)
    (hq : ∀ q ∈ C.outs, q.1 ≠ e) (k : Heap.ExtBut e s.heap h') : Stt B C W st { s with heap := h', toks := tk } :=
  T.extBut ho hd hb (notRho T ho hd) hq (by rw [hh]; intro q; cases q) k

theorem note_ok (Z : CxOk B C lk gl) (F : FCx C) (hf : A.frames = some C.envs) (T : Stt B C W st s) {c : Nat} {e : Addr} (x : XOk B C c e s) {Q : Unit → Shared → Prop}
    (h : ∀ h', Stt B C W st { s with heap := h' } → XTb B C c e (rawInt C.env.locals) { s with heap := h' } → Q () { s with heap := h' }) : wpAny (model prog B.w) A (noteFrame (.ref e) C.env) Q E s := by
  obtain ⟨hh, hb, hq, oe, vs, he, hc, hd, h2, hx⟩ := x
  obtain ⟨r, hr⟩ := F.head
  have fresh : ∀ {s' : Shared}, Stt B C W st s' → B.base.get? s'.heap.objs.size = none := fun T' => Heap.StaysIn.fresh T'.stays
  have enew : ∀ {s₁ : Shared} {head : Value} {b : Bool} {Q : Unit → Shared → Prop}, Stt B C W st s₁ → s₁.heap.get? e = some oe →
      (∀ h', Stt B C W st { s₁ with heap := h' } → XTb B C c e (rawInt C.env.locals) { s₁ with heap := h' } → Q () { s₁ with heap := h' }) →
      wpAny (model prog B.w) A (do setField (.ref e) 1 (← EntryCells.newEntry head (← frameOf C.env) .none (rawInt C.env.locals) .none (← entryPlaceOf C.env.locals b))) Q E s₁ := by
    intro s₁ head b Q T₁ he₁ h
    have hl := fun_frames Z T₁
    rw [hr] at hl hf
    refine wpAny_bind (wpAny_frameOf_fun hf hl F.frame fun h₁ hs₁ => ?_)
    have T₂ := T₁.slots Z (by rw [hr]; exact hs₁)
    have he₂ : h₁.get? e = some oe := (hs₁.2.1 e fun q => by
      obtain ⟨⟨o, es, n, ho, hdd⟩, _⟩ := frame_mem Z T₁ (hr ▸ q)
      rw [he₁] at ho; cases ho; rw [hd] at hdd; cases hdd).trans he₁
    refine wpAny_bind (wpAny_entryPlaceOf fun pl hpl => ?_)
    unfold EntryCells.newEntry newFields
    refine wpAny_bind (wpAny_newObj_type ?_ (hpl.sizeOk5 _ _ _ _ _))
    generalize hO : ({ cls := .type "traceback", dict := none, data := .fields ([head, .ref C.env.locals, .none, rawInt C.env.locals, .none] ++ (if pl.isEmpty then List.replicate 6 Value.none else pl)).toArray } : Obj) = O
    have T₃ : Stt B C W st { s₁ with heap := h₁.push O } := by simpa using T₂.push O (tk := s₁.toks)
    have he₃ : (h₁.push O).get? e = some oe := Heap.get?_push_of_some _ he₂
    have h2l : 1 < vs.size := by have := (Array.getElem?_eq_some_iff.mp h2).1; omega
    refine wpAny_setField he₃ hd h2l (h _ ?_ ?_)
    · exact T₃.extTwo (tk := s₁.toks) hh he₃ hd hb hq (Heap.SameBut.update ..).extBut
    · have hTe : h₁.objs.size ≠ e := Nat.ne_of_gt (Heap.lt_size he₂)
      have hd₃ := Obj.data_mapFields hd (·.setIfInBounds 1 (Value.ref h₁.objs.size))
      have hT₃ := (Heap.get?_update_other (h₁.push O) (Obj.mapFields (·.setIfInBounds 1 (Value.ref h₁.objs.size))) (Ne.symm hTe)).trans (Heap.get?_push_size h₁ (by rw [← hO]; rfl))
      refine ⟨hh, hb, hq, _, _, Heap.get?_update_self _ he₃ (Obj.isFreed_of_fields hd₃), (Obj.cls_mapFields ..).trans hc, hd₃, ?_, h₁.objs.size, O, _, by simp [h2l], fresh T₂, fun q hq => ?_, hTe, hT₃, by rw [← hO], ?_⟩
      · rw [Array.getElem?_setIfInBounds_ne (by decide)]; exact h2
      · exact Nat.ne_of_lt (Heap.lt_size (T₂.outs q hq))
      · first | (simp; done) | (rcases hpl with rfl | ⟨_, _, _, _, _, _, _, rfl⟩ <;> simp)
  unfold noteFrame
  simp only [F.frame]
  rcases hx with h1 | ⟨Ta, oT, ts, fl, h1, t2, t3, t4, t5, t6, t7, t8⟩
  · refine wpAny_bind (wpAny_field he hd h1 ?_)
    refine wpAny_ite_false (decide_eq_false (by decide)) ?_
    exact enew T he h
  · refine wpAny_bind (wpAny_field he hd h1 ?_)
    refine wpAny_ite_true (decide_eq_true (show (Value.ref Ta != Value.none) = true from by simp)) ?_
    refine wpAny_bind (wpAny_field t5 t6 t7 ?_)
    rcases t8 with rfl | ⟨L, hL, rfl⟩
    · refine wpAny_ite_false (decide_eq_false (show ¬ ((Value.none == rawInt C.env.locals) = true) from by simp [rawInt])) ?_
      refine wpAny_bind (wpAny_setField t5 t6 (Array.getElem?_eq_some_iff.mp t7).1 ?_)
      have T₁ : Stt B C W st { s with heap := s.heap.update Ta (Obj.mapFields (·.setIfInBounds 3 Value.none)) } := T.extTwo (tk := s.toks) hh t5 t6 t2 t3 (Heap.SameBut.update ..).extBut
      exact enew T₁ ((Heap.get?_update_other _ _ t4).trans he) h
    · obtain rfl : C.env.locals = L := Option.some.inj (F.frame.symm.trans hL)
      refine wpAny_ite_true (decide_eq_true (by first | (simp; done) | exact beq_self_eq_true _)) ?_
      exact wpAny_pure (h s.heap T ⟨hh, hb, hq, oe, vs, he, hc, hd, h2, Ta, oT, ts, h1, t2, t3, t4, t5, t6, t7⟩)

theorem flight_ok (T : Stt B C W st s) {c : Nat} {e : Addr} {fl : Value} (x : XTb B C c e fl s) (f : Option Addr) {Q : Unit → Shared → Prop}
    (h : ∀ h', Stt B C W st { s with heap := h' } → XTb B C c e (f.elim .none fun f => rawInt f) { s with heap := h' } → Q () { s with heap := h' }) : wpAny (model prog B.w) A (setFlight (.ref e) f) Q E s := by
  obtain ⟨hh, hb, hq, oe, vs, he, hc, hd, h2, Ta, oT, ts, h1, t2, t3, t4, t5, t6, t7⟩ := x
  unfold setFlight
  refine wpAny_bind (wpAny_field he hd h1 ?_)
  refine wpAny_ite_true (decide_eq_true (show (Value.ref Ta != Value.none) = true from by simp)) ?_
  have h3 := (Array.getElem?_eq_some_iff.mp t7).1
  refine wpAny_setField t5 t6 h3 (h _ ?_ ?_)
  · exact T.extTwo (tk := s.toks) hh t5 t6 t2 t3 (Heap.SameBut.update ..).extBut
  · have hd' := Obj.data_mapFields t6 (·.setIfInBounds 3 (f.elim Value.none fun f => rawInt f))
    exact ⟨hh, hb, hq, oe, vs, (Heap.get?_update_other _ _ t4).trans he, hc, hd, h2, Ta, _, _, h1, t2, t3, t4, Heap.get?_update_self _ t5 (Obj.isFreed_of_fields hd'), hd', by simp [h3]⟩

theorem passes (Z : CxOk B C lk gl) (F : FCx C) {A₁ : Around} (hf : A₁.frames = some C.envs) (T : Stt B C W st s) {c : Nat} {e : Addr} (x : XOk B C c e s)
    (h : ∀ s', Stt B C W st s' → XOk B C c e s' → E (.ref e) s') : notedBy (model prog B.w) A₁ C.env (cameBackBy (model prog B.w) A C.env E) (.ref e) s := by
  refine note_ok Z F hf T x fun h' T' x' => ?_
  obtain ⟨hh, hb, hq, oe, vs, he, hc, hd, h2, Ta, oT, ts, h1, t2⟩ := id x'
  refine wpAny_bind (wpAny_field he hd h1 ?_)
  refine wpAny_ite_false (decide_eq_false (show ¬ ((Value.ref Ta == Value.none) = true) from by simp)) ?_
  refine flight_ok T' x' _ fun h'' T'' x'' => h _ T'' (x''.ok ?_)
  rw [F.frame]
  exact .inr ⟨_, rfl, rfl⟩
end
end Mine
end

noncomputable section
open PySem PySem.W PyProof.Rows PySem.Calls PySem.Spec PySem.SeqAt PySem.Builtin
set_option maxRecDepth 100000
namespace Mine

structure Turns (prog : Program) (B : Bx) (hnd : Option Addr) (I : Addr) (l : List AV) (chk : Hp → Prop) (W₀ : Wd) (Ob : Nat → Obj → Prop) : Prop where
  base : B.base.get? I = none
  nh : hnd ≠ some I
  data : ∀ i o, Ob i o → ∃ vs, o.data = .fields vs
  cls : ∀ i o, Ob i o → ∃ nm, o.cls = .type nm ∧ ["enumerate", "zip", "dict_itemiterator", "dict_reverseitemiterator", "odict_iterator", "itertools.zip_longest", "itertools.pairwise"].contains nm = false
  next : ∀ (C : Cx) (A : Around) (W : Wd) (st : St) (s : Shared) (i : Nat) (o : Obj) (Q : Option Value → Shared → Prop) (E : Value → Shared → Prop), C.hnd = hnd → A.handled = hnd.map Value.ref → W₀.le W → (∀ q ∈ C.outs, q.1 ≠ I) →
    Stt B (C.out (I, o)) W st s → Ob i o → chk st.hp →
    (∀ av o' v s', l[i]? = some av → Ob (i + 1) o' → Stt B (C.out (I, o')) W st s' → VR W av v → Q (some v) s') →
    (l[i]? = none → ∀ s', Stt B C W st s' → Q none s') → wpAny (model prog B.w) A (pyNext (.ref I)) Q E s
  self : ∀ (A : Around) (s : Shared) (i : Nat) (o : Obj) (Q : Value → Shared → Prop) (E : Value → Shared → Prop), s.heap.get? I = some o → Ob i o → Q (.ref I) s → wpAny (model prog B.w) A (pyIter (.ref I)) Q E s

theorem wp_owned {prog : Program} {w : World} {A : Around} {E : Value → Shared → Prop} {s : Shared} {I : Addr} {o : Obj} {nm : String} (target : PySem.Expr) (v : Value) (ho : s.heap.get? I = some o) (hc : o.cls = .type nm)
    (hn : ["enumerate", "zip", "dict_itemiterator", "dict_reverseitemiterator", "odict_iterator", "itertools.zip_longest", "itertools.pairwise"].contains nm = false) {Q : Unit → Shared → Prop} (h : Q () s) :
    wpAny (model prog w) A (letOwnedTupleGo target (.ref I) v) Q E s := by
  have main : ∀ a, wpAny (model prog w) A (do
    let (.ref r, .ref a) := (Value.ref I, Value.ref a) | return
    let o ← load r
    match o.cls, o.data with
    | .type n, .fields vs =>
      if ["enumerate", "zip", "dict_itemiterator", "dict_reverseitemiterator", "odict_iterator", "itertools.zip_longest", "itertools.pairwise"].contains n && vs[0]? == some (rawInt a) then
        rule "for.unpacks-the-owned-tuple"
        updateField r 0 .none
    | _, _ => pure ()) Q E s := fun a => by
    refine wpAny_bind (wpAny_load ho ?_)
    obtain ⟨c, d, dt, sl⟩ := o
    obtain rfl : c = .type nm := hc
    cases dt with
    | fields vs =>
      show wpAny _ _ (if (List.contains _ nm && _) = true then _ else _) _ _ _
      rw [hn]
      exact wpAny_pure h
    | _ => exact wpAny_pure h
  cases target <;> first | exact wpAny_pure h | (cases v <;> first | exact wpAny_pure h | exact main _)

section
variable {prog : Program} {B : Bx} {C : Cx} {lk : LK} {gl : Str → Bool} {A : Around} {E : Value → Shared → Prop} {W : Wd} {st : St} {s : Shared} {n : Nat} {hnd : Option Addr}

theorem Stt.turn {I : Addr} {o o' : Obj} {vs : Array Value} {h' : Heap} {tk : Nat} (T : Stt B (C.out (I, o)) W st s) (hb : B.base.get? I = none) (hd : o.data = .fields vs) (hq : ∀ q ∈ C.outs, q.1 ≠ I) (hn : C.hnd ≠ some I)
    (k : Heap.ExtBut I s.heap h') (ho' : h'.get? I = some o') : Stt B (C.out (I, o')) W st { s with heap := h', toks := tk } :=
  (T.drop.extBut T.outAt hd hb T.outFresh hq hn k).out ho' T.outFresh (T.here.2.2 _ (.head _))
theorem Stt.turnEnd {I : Addr} {o : Obj} {vs : Array Value} {h' : Heap} {tk : Nat} (T : Stt B (C.out (I, o)) W st s) (hb : B.base.get? I = none) (hd : o.data = .fields vs) (hq : ∀ q ∈ C.outs, q.1 ≠ I) (hn : C.hnd ≠ some I)
    (k : Heap.ExtBut I s.heap h') : Stt B C W st { s with heap := h', toks := tk } := T.drop.extBut T.outAt hd hb T.outFresh hq hn k

theorem turns_list {j : Nat} {ax I : Addr} {r : List Addr} {l : List AV} {W₀ : Wd} (hr : W₀.ρ[j]? = some (ax :: r)) (hb : B.base.get? I = none) (hn : hnd ≠ some I) :
    Turns prog B hnd I l (fun h => h[j]? = some (.list l)) W₀ (fun i o => o.cls = .type "list_iterator" ∧ o.data = .fields #[.ref ax, .int i 0]) where
  base := hb
  nh := hn
  data := fun _ _ h => ⟨_, h.2⟩
  cls := fun _ _ h => ⟨_, h.1, by decide⟩
  next := by
    intro C A W st s i o Q E hC hA le hq T ⟨hc, hd⟩ hl ki kn
    obtain ⟨q, hq', a, vs, rfl, xl, hvs, hz⟩ := T.objs.at_ _ _ hl
    rw [le.at hr] at hq'; cases hq'
    have xl := xl.isList
    have hit : s.heap.IsListIter I ax i := ⟨o, T.outAt, hc, hd⟩
    cases e : l[i]? with
    | some av =>
      obtain ⟨v, hv, rv⟩ := hvs.get e
      refine wpAny_pyNext_list_item hit xl (x := v) (by simpa using hv) fun h' hit' hs' => ?_
      obtain ⟨o', ho', hc', hd'⟩ := hit'
      exact ki av o' v _ e ⟨hc', hd'⟩ (T.turn (tk := s.toks) hb hd hq (hC ▸ hn) hs'.extBut ho') rv
    | none =>
      have hv : vs.toArray[i]? = none := by
        rw [List.getElem?_toArray, List.getElem?_eq_none_iff, hvs.length]
        exact List.getElem?_eq_none_iff.mp e
      exact list_end (hnd := hnd) hA (hC ▸ T.hnd) hit xl hv hn fun h' k => kn e _ (T.turnEnd (tk := s.toks) hb hd hq (hC ▸ hn) k)
  self := fun A s i o Q E ho ⟨hc, hd⟩ h => wpAny_pyIter_listiter ⟨o, ho, hc, hd⟩ h

theorem turns_bytes {b : List UInt8} {t : Tok} {I : Addr} {W₀ : Wd} (hb : B.base.get? I = none) :
    Turns prog B none I (b.map fun c => .int c.toNat) (fun _ => True) W₀ (fun i o => o.cls = .type "bytes_iterator" ∧ o.data = .fields #[.bytes b.toArray t, .int i 0]) where
  base := hb
  nh := nns
  data := fun _ _ h => ⟨_, h.2⟩
  cls := fun _ _ h => ⟨_, h.1, by decide⟩
  next := by
    intro C A W st s i o Q E hC hA le hq T ⟨hc, hd⟩ hl ki kn
    have hit : KBw.IsBytesIter s.heap I b.toArray t i := ⟨o, T.outAt, hc, hd⟩
    cases e : b[i]? with
    | some c =>
      refine KBw.next_item hit (c := c) (by simpa using e) fun h' hit' hs' => ?_
      obtain ⟨o', ho', hc', hd'⟩ := hit'
      exact ki _ o' _ _ (by rw [List.getElem?_map, e]; rfl) ⟨hc', hd'⟩ (T.turn hb hd hq (by rw [hC]; exact nns) hs'.extBut ho') (.int _ _)
    | none =>
      exact KBw.next_end hA hit (by simpa using e) fun h' k => kn (by rw [List.getElem?_map, e]; rfl) _ (T.turnEnd (tk := s.toks) hb hd hq (by rw [hC]; exact nns) k)
  self := fun A s i o Q E ho ⟨hc, hd⟩ h => KBw.pyIter_self ⟨o, ho, hc, hd⟩ h

theorem key_is {k : Str} {v : Value} (h : (PySem.strKind prog B.w).is k v = true) : ∃ t, v = .str k t := by
  have h : Value.isStrOf k v = true := h
  cases v with
  | str y t => exact ⟨t, by rw [beq_iff_eq.mp h]⟩
  | _ => exact nof h
theorem turns_dict {j : Nat} {dx I : Addr} {r : List Addr} {d : List (Str × AV)} {ep : Nat} {W₀ : Wd} (hr : W₀.ρ[j]? = some (dx :: r)) (hb : B.base.get? I = none) :
    Turns prog B none I (d.map fun e => .str e.1) (fun h => h[j]? = some (.dict d ep)) W₀ (fun i o => o.cls = .type "dict_keyiterator" ∧ o.data = .fields #[.ref dx, .int i 0, .int d.length 0, .int ep 0]) where
  base := hb
  nh := nns
  data := fun _ _ h => ⟨_, h.2⟩
  cls := fun _ _ h => ⟨_, h.1, by decide⟩
  next := by
    intro C A W st s i o Q E hC hA le hq T ⟨hc, hd⟩ hl ki kn
    obtain ⟨q, hq', a, es, rfl, ⟨od, ho, hx, hdd⟩, hdr, hz, hnd⟩ := T.objs.at_ _ _ hl
    rw [le.at hr] at hq'; cases hq'
    obtain ⟨kvs, hp, hk⟩ := dr_pairs (prog := prog) hdr
    have hlen : kvs.length = d.length := by have := congrArg List.length hk; simpa using this
    have hit : s.heap.IsKeyIter I dx i kvs.length ep := ⟨o, T.outAt, hc, by rw [hlen]; exact hd⟩
    have hm : s.heap.DictAt (PySem.strKind prog B.w) dx kvs ep := ⟨od, es.toArray, ho, hx, hdd, dr_keys hdr, by simpa using hp, by rw [hk]; exact hnd⟩
    have hkey : ∀ i : Nat, (kvs[i]?).map (fun x => x.1) = (d[i]?).map (fun x => x.1) := fun i => by
      have := congrArg (fun l => l[i]?) hk
      simpa using this
    cases e : d[i]? with
    | some kv =>
      have := hkey i
      rw [e] at this
      cases e' : kvs[i]? with
      | none => rw [e'] at this; cases this
      | some kv' =>
        rw [e'] at this
        obtain ⟨k', v'⟩ := kv'
        have hkk : k' = kv.1 := by simpa using this
        subst hkk
        refine wpAny_pyNext_dict_item hit hm e' fun key h' hkey' hit' hs' => ?_
        obtain ⟨t, rfl⟩ := key_is hkey'
        obtain ⟨o', ho', hc', hd'⟩ := hit'
        rw [hlen] at hd'
        refine ki _ o' _ _ (by rw [List.getElem?_map, e]; rfl) ⟨hc', hd'⟩ (T.turn (tk := s.toks) hb hd hq (by rw [hC]; exact nns) hs'.extBut ho') (.str _ _ ?_)
        exact dr_small hdr _ (List.mem_map.mpr ⟨_, List.mem_of_getElem? e, rfl⟩)
    | none =>
      have := hkey i
      rw [e] at this
      have e' : kvs[i]? = none := by
        cases e' : kvs[i]? with
        | none => rfl
        | some kv' => rw [e'] at this; cases this
      exact wpAny_pyNext_dict_end hA hit hm e' fun h' k => kn (by rw [List.getElem?_map, e]; rfl) _ (T.turnEnd (tk := s.toks) hb hd hq (by rw [hC]; exact nns) k)
  self := fun A s i o Q E ho ⟨hc, hd⟩ h => wpAny_pyIter_keyiter ⟨o, ho, hc, hd⟩ h

theorem rangeL_len (lo : Int) (n : Nat) : (rangeL lo n).length = n := by
  induction n generalizing lo with
  | zero => rfl
  | succ n ih => exact congrArg (· + 1) (ih _)
theorem rangeL_get (lo : Int) (n i : Nat) (h : i < n) : (rangeL lo n)[i]? = some (.int (lo + i)) := by
  induction n generalizing lo i with
  | zero => omega
  | succ n ih =>
    cases i with
    | zero => exact congrArg (fun z => some (AV.int z)) (Int.add_zero lo).symm
    | succ i => show (rangeL (lo + 1) n)[i]? = _; rw [ih (lo + 1) i (by omega)]; congr 2; push_cast; omega
theorem turns_range {lo : Int} {n : Nat} {I : Addr} {W₀ : Wd} (hb : B.base.get? I = none) :
    Turns prog B none I (rangeL lo n) (fun _ => True) W₀ (fun i o => i ≤ n ∧ o = { cls := .type "range_iterator", dict := none, data := .fields #[rawInt (lo + i), rawInt (n - i : Int), rawInt 1], slots := #[] }) where
  base := hb
  nh := nns
  data := fun _ _ ⟨_, h⟩ => by subst h; exact ⟨_, rfl⟩
  cls := fun _ _ ⟨_, h⟩ => by subst h; exact ⟨_, rfl, by decide⟩
  next := by
    intro C A W st s i o Q E hC hA le hq T ⟨hi, hd⟩ hl ki kn
    subst hd
    have hit : IsRangeIter s.heap I (lo + i) (n - i) 1 := T.outAt
    by_cases hlt : i < n
    · refine wpAny_pyNext_range_item hit (by omega) fun h' hit' hs' => ?_
      exact ki _ _ _ _ (rangeL_get lo n i hlt) ⟨by omega, rfl⟩ (T.turn hb rfl hq (by rw [hC]; exact nns) hs'.extBut (by
        have := hit'
        unfold IsRangeIter at this
        have e1 : lo + (i : Int) + 1 = lo + ((i + 1 : Nat) : Int) := by push_cast; omega
        have e2 : (n : Int) - (i : Int) - 1 = n - ((i + 1 : Nat) : Int) := by push_cast; omega
        rw [e1, e2] at this
        exact this)) (.int _ _)
    · refine wpAny_pyNext_range_end hA hit (by omega) fun h' k => kn ?_ _ (T.turnEnd (tk := s.toks) hb rfl hq (by rw [hC]; exact nns) k)
      rw [List.getElem?_eq_none_iff, rangeL_len]; omega
  self := fun A s i o Q E ho ⟨hi, hd⟩ h => wpAny_pyIter_rangeiter (by subst hd; exact ho) h
end
end Mine
end

noncomputable section
open PySem PySem.W PyProof.Rows PySem.Calls PySem.Spec PySem.SeqAt PySem.Builtin
set_option maxRecDepth 100000
namespace Mine

section
variable {prog : Program} {K : Frag} {τ : List (Addr × List Value)} {B : Bx} {C : Cx} {lk : LK} {gl : Str → Bool} {A : Around} {E : Value → Shared → Prop} {W : Wd} {st : St} {s : Shared} {n : Nat}

theorem Stt.top (T : Stt B C W st s) (O : Obj) {vs : Array Value} (hd : O.data = .fields vs) : Stt B (C.out (s.heap.objs.size, O)) W st { s with heap := s.heap.push O } ∧ B.base.get? s.heap.objs.size = none ∧ C.hnd ≠ some s.heap.objs.size ∧ ∀ q ∈ C.outs, q.1 ≠ s.heap.objs.size := by
  have T' : Stt B C W st { s with heap := s.heap.push O } := T.push O (tk := s.toks)
  have ho : (s.heap.push O).get? s.heap.objs.size = some O := Heap.get?_push_size _ (Obj.isFreed_of_fields hd)
  refine ⟨T'.out ho (notRho T' ho hd) ?_, Heap.StaysIn.fresh T.stays, ?_, fun q hq => Nat.ne_of_lt (Heap.lt_size (T.outs q hq))⟩
  · obtain ⟨m, ⟨o, es, n, hL, _⟩, _⟩ := T.loc
    exact (Nat.ne_of_lt (Heap.lt_size hL)).symm
  · have hh := T.hnd
    intro e
    rw [e] at hh
    obtain ⟨o, vs, ho, _⟩ := hh
    exact Nat.lt_irrefl _ (Heap.lt_size ho)

theorem hnd_none (hA : AOk C A n) (h : C.hnd.isSome = false) : C.hnd = none ∧ A.handled = none := by
  have := hA.handled
  cases e : C.hnd with
  | none => rw [this, e]; exact ⟨rfl, rfl⟩
  | some y => rw [e] at h; cases h

theorem iter_ok (G : Gx K τ B) (hA : AOk C A n) (T : Stt B C W st s) {a : AV} {v : Value} (r : VR W a v) {P : List AV → (Hp → Prop) → Prop} (h : iterQ C.hnd.isSome a st.hp P) {Q : Value → Shared → Prop}
    (k : ∀ I o Ob l chk h', Turns prog B C.hnd I l chk W Ob → Ob 0 o → Stt B (C.out (I, o)) W st { s with heap := h' } → (∀ q ∈ C.outs, q.1 ≠ I) → chk st.hp → P l chk → l.length ≤ 16777216 → Q (.ref I) { s with heap := h' }) :
    wpAny (model prog B.w) A (pyIter v) Q E s := by
  cases a with
  | bytes b =>
    obtain ⟨h0, h⟩ := h
    obtain ⟨h1, h2⟩ := hnd_none hA h0
    obtain ⟨t, rfl, hz⟩ := VR.inv_y r
    obtain ⟨T', x1, x2, x3⟩ := T.top { cls := .type "bytes_iterator", data := .fields #[.bytes b.toArray t, .int 0 0] } rfl
    have X := turns_bytes (prog := prog) (B := B) (b := b) (t := t) (W₀ := W) x1
    rw [← h1] at X
    exact KBw.pyIter_bytes (k _ _ _ _ _ _ X ⟨rfl, rfl⟩ T' x3 trivial h (by rw [List.length_map]; exact hz))
  | obj j =>
    replace h := onO_inv h; obtain ⟨o, hl, h⟩ := h
    obtain ⟨ax, rr, rfl, hj⟩ := VR.inv_o r
    cases o with
    | list l =>
      obtain ⟨q, hq, a, vs, rfl, xl, hvs, hz⟩ := T.objs.at_ _ _ hl
      rw [hj] at hq; cases hq
      obtain ⟨T', x1, x2, x3⟩ := T.top { cls := .type "list_iterator", data := .fields #[.ref ax, .int 0 0] } rfl
      exact wpAny_pyIter_list xl.isList (k _ _ _ _ _ _ (turns_list hj x1 x2) ⟨rfl, rfl⟩ T' x3 hl h hz)
    | dict d ep =>
      obtain ⟨h0, h⟩ := h
      obtain ⟨h1, h2⟩ := hnd_none hA h0
      obtain ⟨q, hq, a, es, rfl, ⟨od, ho, hx, hdd⟩, hdr, hz, hnd⟩ := T.objs.at_ _ _ hl
      rw [hj] at hq; cases hq
      obtain ⟨kvs, hp, hk⟩ := dr_pairs (prog := prog) hdr
      have hlen : kvs.length = d.length := by have := congrArg List.length hk; simpa using this
      obtain ⟨T', x1, x2, x3⟩ := T.top { cls := .type "dict_keyiterator", data := .fields #[.ref ax, .int 0 0, .int d.length 0, .int ep 0] } rfl
      have hm : s.heap.DictAt (PySem.strKind prog B.w) ax kvs ep := ⟨od, es.toArray, ho, hx, hdd, dr_keys hdr, by simpa using hp, by rw [hk]; exact hnd⟩
      refine wpAny_pyIter_dict (notMods T G.mods hj) hm ?_
      rw [hlen]
      have X := turns_dict (prog := prog) (B := B) (d := d) (ep := ep) hj x1
      rw [← h1] at X
      exact k _ _ _ _ _ _ X ⟨rfl, rfl⟩ T' x3 hl h (by rw [List.length_map]; omega)
    | inst _ _ => exact h.elim
  | _ => exact h.elim
end

section
variable {prog : Program} {w : World} {A : Around} {E : Value → Shared → Prop} {R : Result → Shared → Prop} {s : Shared}

theorem comp_step {elt target iter : PySem.Expr} {ifs : List PySem.Expr} {scope : Scope} {pos : Pos} {it acc : Value} {env : Env}
    (h : wpAny (model prog w) A (pyNext it) (fun r s₁ => match r with
      | none => R (.ok .next) s₁
      | some v => wpAny (model prog w) A (assign target env v) (fun _ s₂ =>
          wpAny (model prog w) A (forIn ifs true fun c r => if r = true then do let ok ← isTrue c env (eval c env); pure (ForInStep.yield ok) else pure (ForInStep.yield r)) (fun ok s₃ =>
            if ok = true then wpAny (model prog w) A (eval elt env) (fun x s₄ =>
              wpAny (model prog w) A (call (.builtin "list.append") [acc, x]) (fun _ s₅ => codeAny (model prog w) A (.compLoop (.ListComp elt [⟨target, iter, ifs, 0⟩] scope pos) 0 it acc env) R s₅) (fun _ _ => False) s₄) (fun _ _ => False) s₃
            else codeAny (model prog w) A (.compLoop (.ListComp elt [⟨target, iter, ifs, 0⟩] scope pos) 0 it acc env) R s₃) (fun _ _ => False) s₂) (fun _ _ => False) s₁) (fun _ _ => False) s)
    (ht : ∀ v, letOwnedTupleGo target it v = pure () := by intro _; rfl) :
    codeAny (model prog w) A (.compLoop (.ListComp elt [⟨target, iter, ifs, 0⟩] scope pos) 0 it acc env) R s := by
  refine codeAny_of_tree ?_
  show wpAny _ A ((compTurn (.ListComp elt [⟨target, iter, ifs, 0⟩] scope pos) 0 it acc env).onRaise (fun x => do noteFrame x env; theTreesLotGoes x)) _ _ s
  refine wpAny_noted ?_
  rw [compTurn_list]
  refine wpAny_bind (wpAny_standAt (wpAny_bind (wpAny_mono h (fun r s₁ h₁ => ?_) fun _ _ h' => h'.elim)))
  cases r with
  | none => exact wpAny_pure h₁
  | some v =>
    refine wpAny_bind (wpAny_of_eq (ht v) ?_)
    refine wpAny_bind (wpAny_mono h₁ (fun _ s₂ h₂ => wpAny_bind (wpAny_mono h₂ (fun ok s₃ h₃ => ?_) fun _ _ h' => h'.elim)) fun _ _ h' => h'.elim)
    cases ok with
    | false => exact wpAny_pure ⟨rfl, h₃⟩
    | true =>
      exact wpAny_bind (wpAny_bind (wpAny_mono h₃ (fun x s₄ h₄ => wpAny_bind (wpAny_mono h₄ (fun _ s₅ h₅ => wpAny_pure (wpAny_pure ⟨rfl, h₅⟩)) fun _ _ h' => h'.elim)) fun _ _ h' => h'.elim))
end
end Mine
end

noncomputable section
open PySem PySem.W PyProof.Rows PySem.Calls PySem.Spec PySem.SeqAt PySem.Builtin
set_option maxRecDepth 100000
namespace Mine

section
variable {prog : Program} {K : Frag} {τ : List (Addr × List Value)} {B : Bx} {C : Cx} {lk : LK} {gl : Str → Bool} {A : Around} {E : Value → Shared → Prop} {W : Wd} {st : St} {s : Shared} {n : Nat}

theorem Stt.rho (T : Stt B C W st s) : ∀ a ∈ W.ρ.flatten, ∃ o, s.heap.get? a = some o ∧ (∀ v, o.data ≠ .cell v) := by
  intro a ha
  obtain ⟨q, hq, haq⟩ := List.mem_flatten.mp ha
  obtain ⟨i, hi⟩ := List.getElem?_of_mem hq
  have hil : i < st.hp.length := by rw [← T.objs.len]; exact (List.getElem?_eq_some_iff.mp hi).1
  obtain ⟨q', hq', hoq⟩ := T.objs.at_ i _ (List.getElem?_eq_getElem hil)
  rw [hi] at hq'; cases hq'
  generalize st.hp[i] = o' at hoq
  cases o' with
  | list l => obtain ⟨b, vs, rfl, ⟨ob, hb, _, _, _, hd'⟩, _⟩ := hoq; simp at haq; subst haq; exact ⟨_, hb, fun v e => by rw [hd'] at e; cases e⟩
  | dict d n => obtain ⟨b, es, rfl, ⟨ob, hb, _, hd'⟩, _⟩ := hoq; simp at haq; subst haq; exact ⟨_, hb, fun v e => by rw [hd'] at e; cases e⟩
  | inst c l =>
    obtain ⟨b, dx, es, rfl, ⟨ob, hb, _, _, hd'⟩, ⟨od, n, hdx, _, _, hd''⟩, _⟩ := hoq
    simp at haq
    rcases haq with rfl | rfl
    · exact ⟨_, hb, fun v e => by rw [hd'] at e; cases e⟩
    · exact ⟨_, hdx, fun v e => by rw [hd''] at e; cases e⟩

structure Cells (C : Cx) (W : Wd) (st : St) (s : Shared) (l : List (Addr × Obj)) : Prop where
  at_ : ∀ p ∈ l, s.heap.get? p.1 = some p.2 ∧ ∃ v, p.2.data = .cell v
  all : ∀ i y c av, C.cl i = some (y, c) → st.loc[i]? = some (some av) → ∃ o v, (c, o) ∈ l ∧ o.data = .cell (some v) ∧ VR W av v
theorem cells_out (T : Stt B C W st s) : ∃ l, Cells C W st s l := by
  have : ∀ n, ∃ l : List (Addr × Obj), (∀ p ∈ l, s.heap.get? p.1 = some p.2 ∧ ∃ v, p.2.data = .cell v) ∧
      ∀ i y c av, i < n → C.cl i = some (y, c) → st.loc[i]? = some (some av) → ∃ o v, (c, o) ∈ l ∧ o.data = .cell (some v) ∧ VR W av v := by
    intro n
    induction n with
    | zero => exact ⟨[], (fun _ h => by cases h), fun i _ _ _ h => by omega⟩
    | succ n ih =>
      obtain ⟨l, h1, h2⟩ := ih
      cases e : C.cl n with
      | none =>
        refine ⟨l, h1, fun i y c av hi hc hl => ?_⟩
        by_cases q : i = n
        · subst q; rw [e] at hc; cases hc
        · exact h2 i y c av (by omega) hc hl
      | some yc =>
        obtain ⟨y, c⟩ := yc
        cases e' : st.loc[n]? with
        | none =>
          refine ⟨l, h1, fun i y c av hi hc hl => ?_⟩
          by_cases q : i = n
          · subst q; rw [e'] at hl; cases hl
          · exact h2 i y c av (by omega) hc hl
        | some ov =>
          cases ov with
          | none =>
            refine ⟨l, h1, fun i y c av hi hc hl => ?_⟩
            by_cases q : i = n
            · subst q; rw [e'] at hl; cases hl
            · exact h2 i y c av (by omega) hc hl
          | some av =>
            obtain ⟨v, ⟨o, ho, hd⟩, hv⟩ := T.cel n y c av e e'
            refine ⟨(c, o) :: l, fun p hp => (List.mem_cons.mp hp).elim (fun q => by subst q; exact ⟨ho, _, hd⟩) (h1 p), fun i y' c' av' hi hc hl => ?_⟩
            by_cases q : i = n
            · subst q
              rw [e] at hc; cases hc
              rw [e'] at hl; cases hl
              exact ⟨o, v, .head _, hd, hv⟩
            · obtain ⟨o', v', h3, h4⟩ := h2 i y' c' av' (by omega) hc hl
              exact ⟨o', v', .tail _ h3, h4⟩
  obtain ⟨l, h1, h2⟩ := this st.loc.length
  exact ⟨l, h1, fun i y c av hc hl => h2 i y c av (List.getElem?_eq_some_iff.mp hl).1 hc hl⟩

structure Here (C : Cx) (W : Wd) (st : St) (s : Shared) (m : Str → Option Value) : Prop where
  ns : s.heap.Ns C.env.locals m
  loc : ∀ i x av, C.nm i = some x → st.loc[i]? = some (some av) → ∃ v, m x = some v ∧ VR W av v

theorem Stt.enter (T : Stt B C W st s) {m m' : Str → Option Value} {l : List (Addr × Obj)} (H : Here C W st s m) (X : Cells C W st s l) {C' : Cx} {h' : Heap} {tk : Nat} {loc' : List (Option AV)}
    (k : ∀ b o, s.heap.get? b = some o → h'.get? b = some o) (hL : s.heap.objs.size ≤ C'.env.locals) (hons : C'.ons = (C.env.locals, m) :: C.ons) (houts : C'.outs = l ++ C.outs) (hh : C'.hnd = C.hnd) (hn : h'.Ns C'.env.locals m')
    (hloc : ∀ i x av, C'.nm i = some x → loc'[i]? = some (some av) → ∃ v, m' x = some v ∧ VR W av v)
    (hcel : ∀ i x c av, C'.cl i = some (x, c) → loc'[i]? = some (some av) → ∃ v, h'.IsCell c (some v) ∧ VR W av v) : Stt B C' W ⟨loc', st.hp⟩ { s with heap := h', toks := tk } := by
  have T' := T.ext (tk := tk) k
  have nL : ∀ {a o}, s.heap.get? a = some o → a ≠ C'.env.locals := fun e q => Nat.lt_irrefl _ (Nat.lt_of_lt_of_le (Heap.lt_size e) (q ▸ hL))
  obtain ⟨oL, esL, nL', hoL, _⟩ := id H.ns
  have outs_ne : ∀ q ∈ C'.outs, ∃ o, s.heap.get? q.1 = some o := fun q hq => by
    rw [houts, List.mem_append] at hq
    exact hq.elim (fun h => ⟨_, (X.at_ q h).1⟩) (fun h => ⟨_, T.outs q h⟩)
  refine { gens := T.gens, drawn := T.drawn, os := T.os, stays := T'.stays, loc := ⟨m', hn, hloc⟩, cel := hcel, outer := ?_, outs := ?_, objs := T'.objs, tups := T'.tups, nodup := T.nodup, fresh := ?_, here := ?_, hnd := by rw [hh]; exact T'.hnd }
  · intro q hq
    rw [hons] at hq
    rcases List.mem_cons.mp hq with rfl | hq
    · exact H.ns.keeps k
    · exact T'.outer q hq
  · intro q hq
    rw [houts, List.mem_append] at hq
    exact hq.elim (fun h => k _ _ (X.at_ q h).1) (fun h => T'.outs q h)
  · intro a ha
    obtain ⟨x, y, z, w⟩ := T.fresh a ha
    obtain ⟨o, ho, hnc⟩ := T.rho a ha
    refine ⟨x, nL ho, fun q hq => ?_, fun q hq => ?_⟩
    · rw [hons] at hq
      rcases List.mem_cons.mp hq with rfl | hq
      · exact y.symm
      · exact z q hq
    · rw [houts, List.mem_append] at hq
      rcases hq with hq | hq
      · rintro rfl
        obtain ⟨h1, v, h2⟩ := X.at_ q hq
        rw [ho] at h1; cases h1
        exact hnc _ h2
      · exact w q hq
  · refine ⟨?_, fun q hq => ?_, fun q hq => ?_⟩
    · cases e : B.base.get? C'.env.locals with
      | none => rfl
      | some o => exact absurd rfl (nL (T.stays _ _ e))
    · rw [hons] at hq
      rcases List.mem_cons.mp hq with rfl | hq
      · exact ⟨fun _ => nL hoL, T.here.1⟩
      · obtain ⟨_, _, _, e, _⟩ := T.outer q hq
        exact ⟨fun _ => nL e, (T.here.2.1 q hq).2⟩
    · obtain ⟨o, ho⟩ := outs_ne q hq
      exact nL ho

theorem Stt.leave (T : Stt B C W st s) {m : Str → Option Value} {l : List (Addr × Obj)} (H : Here C W st s m) (X : Cells C W st s l) {C' : Cx} {W' : Wd} {st' : St} {s' : Shared} (T' : Stt B C' W' st' s') (le : W.le W')
    (hons : C'.ons = (C.env.locals, m) :: C.ons) (houts : ∀ q ∈ l ++ C.outs, q ∈ C'.outs) (hh : C'.hnd = C.hnd) : Stt B C W' ⟨st.loc, st'.hp⟩ s' :=
  { gens := T'.gens, drawn := T'.drawn, os := T'.os, stays := T'.stays
    loc := ⟨m, T'.outer _ (by rw [hons]; exact .head _), fun i x av e e' => let ⟨v, a, b⟩ := H.loc i x av e e'; ⟨v, a, b.mono le⟩⟩
    cel := fun i x c av e e' => by
      obtain ⟨o, v, hm, hd, hv⟩ := X.all i x c av e e'
      exact ⟨v, ⟨o, T'.outs _ (houts _ (List.mem_append_left _ hm)), hd⟩, hv.mono le⟩
    outer := fun q hq => T'.outer q (by rw [hons]; exact .tail _ hq)
    outs := fun q hq => T'.outs q (houts q (List.mem_append_right _ hq))
    objs := T'.objs, tups := T'.tups, nodup := T'.nodup
    fresh := fun a ha => by
      obtain ⟨x, y, z, w⟩ := T'.fresh a ha
      refine ⟨x, (z _ (by rw [hons]; exact .head _)).symm, fun q hq => z q (by rw [hons]; exact .tail _ hq), fun q hq => w q (houts q (List.mem_append_right _ hq))⟩
    here := T.here, hnd := hh ▸ T'.hnd }

theorem Stt.hereOf (T : Stt B C W st s) : ∃ m, Here C W st s m := let ⟨m, a, b⟩ := T.loc; ⟨m, a, b⟩
theorem Here.ext {h' : Heap} {tk : Nat} {m : Str → Option Value} (x : Here C W st s m) (k : ∀ b o, s.heap.get? b = some o → h'.get? b = some o) : Here C W st { s with heap := h', toks := tk } m := ⟨x.ns.keeps k, x.loc⟩
theorem Cells.ext {h' : Heap} {tk : Nat} {l : List (Addr × Obj)} (x : Cells C W st s l) (k : ∀ b o, s.heap.get? b = some o → h'.get? b = some o) : Cells C W st { s with heap := h', toks := tk } l := ⟨fun p hp => ⟨k _ _ (x.at_ p hp).1, (x.at_ p hp).2⟩, x.all⟩

theorem Stt.reout {D : Addr} {o o' : Obj} {h' : Heap} {tk : Nat} (T : Stt B (C.out (D, o)) W st s) (hD : B.base.get? D = none) (hq : ∀ q ∈ C.outs, q.1 ≠ D) (hc : o.cls = .type "list") (hs : ∃ xs n, o.data = .seq xs n)
    (k : Heap.SameBut D s.heap h') (ho : h'.get? D = some o') : Stt B (C.out (D, o')) W st { s with heap := h', toks := tk } := by
  obtain ⟨xs, nn, hd⟩ := hs
  have hat := T.outAt
  have ndict : ∀ {a : Addr} {m : Str → Option Value}, s.heap.Ns a m → a ≠ D := by
    rintro a m ⟨oa, es, n, h1, h2, _⟩ rfl
    rw [hat] at h1; cases h1; rw [hd] at h2; cases h2
  have ncell : ∀ {c : Addr} {v : Option Value}, s.heap.IsCell c v → c ≠ D := by
    rintro c v ⟨oa, h1, h2⟩ rfl
    rw [hat] at h1; cases h1; rw [hd] at h2; cases h2
  obtain ⟨m, hm, hl⟩ := T.loc
  refine { gens := T.gens, drawn := T.drawn, os := T.os, stays := fun b ob e => (k.2 b fun q => by rw [q, hD] at e; cases e).trans (T.stays b ob e), loc := ⟨m, hm.sameBut k (ndict hm), hl⟩, cel := ?_, outer := ?_, outs := ?_, objs := ?_, tups := ?_, nodup := T.nodup, fresh := ?_, here := ?_, hnd := ?_ }
  · intro i x c av e e'
    obtain ⟨v, a, b⟩ := T.cel i x c av e e'
    exact ⟨v, a.sameBut k (ncell a), b⟩
  · exact fun q hq => (T.outer q hq).sameBut k (ndict (T.outer q hq))
  · intro q hq'
    rcases List.mem_cons.mp hq' with rfl | hq'
    · exact ho
    · exact (k.2 _ (hq q hq')).trans (T.outs q (.tail _ hq'))
  · refine ⟨T.objs.len, fun i ob hi => ?_⟩
    obtain ⟨r, hr, x⟩ := T.objs.at_ i ob hi
    exact ⟨r, hr, x.but k fun h => T.outFresh _ (List.mem_flatten.mpr ⟨r, List.mem_of_getElem? hr, h⟩) rfl⟩
  · intro t ht
    refine isTup_but k ?_ (T.tups t ht)
    intro e
    obtain ⟨oa, h1, h2, _⟩ := T.tups t ht
    rw [e, hat] at h1; cases h1
    rw [hc] at h2; exact absurd h2 (by decide)
  · intro a ha
    obtain ⟨x, y, z, w⟩ := T.fresh a ha
    exact ⟨x, y, z, fun q hq => (List.mem_cons.mp hq).elim (fun e => by subst e; exact T.outFresh a ha) fun h => w q (.tail _ h)⟩
  · exact ⟨T.here.1, T.here.2.1, fun q hq => (List.mem_cons.mp hq).elim (fun e => by subst e; exact T.here.2.2 (D, o) (.head _)) fun h => T.here.2.2 q (.tail _ h)⟩
  · refine T.hnd.at fun b e ob h => (k.2 b ?_).trans h
    rintro rfl
    have hh := T.hnd
    rw [e] at hh
    obtain ⟨ox, vs, h1, h2, _⟩ := hh
    rw [hat] at h1; cases h1; rw [hd] at h2; cases h2

theorem Stt.adopt {D : Addr} {o : Obj} {l : List AV} {vs : List Value} (T : Stt B (C.out (D, o)) W st s) (hD : B.base.get? D = none) (hDs : D ≠ sysModules) (hq : ∀ q ∈ C.outs, q.1 ≠ D) (hn : ∀ q ∈ C.ons, q.1 ≠ D) (ha : ListAt s.heap D vs.toArray) (hv : VRs W l vs) (hz : l.length ≤ 16777216) :
    Stt B C ⟨W.ρ ++ [[D]], W.τ⟩ ⟨st.loc, st.hp ++ [.list l]⟩ s := by
  have le : W.le ⟨W.ρ ++ [[D]], W.τ⟩ := ⟨⟨_, rfl⟩, fun _ h => h⟩
  obtain ⟨m, hm, hl⟩ := T.loc
  refine { gens := T.gens, drawn := T.drawn, os := T.os, stays := T.stays, loc := ⟨m, hm, fun i x av e e' => let ⟨v, a, b⟩ := hl i x av e e'; ⟨v, a, b.mono le⟩⟩, cel := fun i x c av e e' => let ⟨v, a, b⟩ := T.cel i x c av e e'; ⟨v, a, b.mono le⟩,
           outer := T.outer, outs := fun q hq => T.outs q (.tail _ hq), objs := ?_, tups := T.tups, nodup := ?_, fresh := ?_, here := T.drop.here, hnd := T.hnd }
  · refine ⟨by simp [T.objs.len], fun i ob hi => ?_⟩
    dsimp only at hi ⊢
    by_cases hil : i < st.hp.length
    · rw [List.getElem?_append_left hil] at hi
      obtain ⟨q, hq, hoq⟩ := T.objs.at_ i ob hi
      exact ⟨q, le.at hq, hoq.mono le⟩
    · have hl' := (List.getElem?_eq_some_iff.mp hi).1
      rw [List.length_append, List.length_singleton] at hl'
      obtain rfl : i = st.hp.length := by omega
      rw [List.getElem?_append_right (Nat.le_refl _), Nat.sub_self] at hi
      cases hi
      exact ⟨[D], by rw [← T.objs.len]; simp, D, vs, rfl, ha, hv.mono le, hz⟩
  · show (W.ρ ++ [[D]]).flatten.Nodup
    rw [List.flatten_append, List.nodup_append]
    refine ⟨T.nodup, by simp, fun a ha' b hb => ?_⟩
    obtain rfl : b = D := by simpa using hb
    exact (T.outFresh a ha').symm
  · intro a ha'
    rw [List.flatten_append, List.mem_append] at ha'
    rcases ha' with ha' | ha'
    · exact T.drop.fresh a ha'
    · obtain rfl : a = D := by simpa using ha'
      exact ⟨⟨hD, hDs⟩, T.here.2.2 (a, o) (.head _), hn, hq⟩
end
end Mine
end

noncomputable section
open PySem PySem.W PyProof.Rows PySem.Calls PySem.Spec PySem.SeqAt PySem.Builtin
set_option maxRecDepth 100000
namespace Mine

set_option backward.eqns.nonrecursive false in
noncomputable def condF (Φ : Fn) (hd : Bool) (L : List (Option AV)) (ct : Option E) (v : AV) (st : St) (K : Bool → St → Prop) : Prop := match ct with
  | none => K true st
  | some c => wp Φ hd true c ⟨some v :: L, st.hp⟩ (fun y st₃ => isB y fun b => K b st₃) (fun _ _ => False)
noncomputable def eltF (Φ : Fn) (hd : Bool) (L : List (Option AV)) (elt : E) (v : AV) (st : St) (K : QV) : Prop := wp Φ hd false elt ⟨some v :: L, st.hp⟩ (fun y st₃ => K y st₃) (fun _ _ => False)
set_option backward.eqns.nonrecursive false in
noncomputable def ifsOf (ct : Option E) : List PySem.Expr := match ct with
  | none => []
  | some c => [emb c]

section
variable {prog : Program} {K : Frag} {τ : List (Addr × List Value)} {B : Bx} {Φ : Fn} {n : Nat}

theorem kx_false {B : Bx} {C : Cx} {W : Wd} {E' : Value → Shared → Prop} : KX B C W (fun _ _ => False) E' := fun _ _ _ _ _ _ _ _ h => h.elim

set_option tactic.hygienic true in
theorem com_loop {ct : Option E} {elt : E} {iter : PySem.Expr} {x : Str} {px : Pos} {scope : Scope} {pos : Pos} {Cb : Cx} {lk : LK} {gl : Str → Bool} {A : Around} {W₀ : Wd} {I D : Addr} {items : List AV} {chk : Hp → Prop} {Ob : Nat → Obj → Prop}
    {L : List (Option AV)} {KK : List AV → Hp → Prop} {R : Result → Shared → Prop}
    (he : SEv prog τ B Φ n elt) (hc : ∀ c, ct = some c → SEt prog τ B Φ n c) (ok : okE lk gl elt = true) (okc : ∀ c, ct = some c → okE lk gl c = true)
    (Z : CxOk B Cb lk gl) (hA : AOk Cb A n) (hτ : ∀ t ∈ τ, t ∈ W₀.τ) (X : Turns prog B Cb.hnd I items chk W₀ Ob) (hI : ∀ q ∈ Cb.outs, q.1 ≠ I) (hID : I ≠ D) (hD : B.base.get? D = none) (hDo : ∀ q ∈ Cb.outs, q.1 ≠ D)
    (hro : Cb.ro = false) (nm0 : Cb.nm 0 = some x) (nm1 : ∀ i y, Cb.nm i = some y → i = 0) (cel : ∀ i y c av, Cb.cl i = some (y, c) → (none :: L)[i]? = some (some av) → ∃ o v, (c, o) ∈ Cb.outs ∧ o.data = .cell (some v) ∧ VR W₀ av v)
    (hz : items.length ≤ 16777216)
    (hR : ∀ W hp s acc vs OD, W₀.le W → Stt B (Cb.out (D, OD)) W ⟨none :: L, hp⟩ s → ListAt s.heap D vs.toArray → VRs W acc vs → acc.length ≤ items.length → KK acc hp → R (.ok .next) s) :
    ∀ (r : List AV) (i : Nat) (W : Wd) (st : St) (s : Shared) (acc : List AV) (vs : List Value) (OD o : Obj), items.drop i = r → W₀.le W → Stt B ((Cb.out (D, OD)).out (I, o)) W ⟨none :: L, st.hp⟩ s → Ob i o → ListAt s.heap D vs.toArray → VRs W acc vs → acc.length ≤ i → i ≤ items.length → chk st.hp →
      comQ (condF Φ Cb.hnd.isSome L ct) (eltF Φ Cb.hnd.isSome L elt) chk (fun acc st => KK acc st.hp) r acc st →
      codeAny (model prog B.w) A (.compLoop (.ListComp (emb elt) [⟨.Name x px, iter, ifsOf ct, 0⟩] scope pos) 0 (.ref I) (.ref D) Cb.env) R s := by
  intro r
  induction r with
  | nil =>
    intro i W st s acc vs OD o hr le T hO hl hv ha hi hck h
    have hend : items[i]? = none := by
      rw [List.getElem?_eq_none_iff]
      have := congrArg List.length hr
      simp at this
      omega
    refine comp_step (X.next (Cb.out (D, OD)) A W _ s i o _ _ rfl hA.handled le (fun q hq => ?_) T hO hck (fun av o' v s' e => ?_) fun _ s' T' => ?_)
    · rcases List.mem_cons.mp hq with rfl | hq
      · exact hID.symm
      · exact hI q hq
    · rw [hend] at e; cases e
    · have hl' : ListAt s'.heap D vs.toArray := by
        obtain ⟨o2, h1, h2⟩ := hl
        have e1 : s.heap.get? D = some OD := T.outs (D, OD) (.tail _ (.head _))
        rw [e1] at h1; cases h1
        exact ⟨OD, T'.outAt, h2⟩
      exact hR W st.hp s' acc vs OD le T' hl' hv (by omega) h
  | cons v r ih =>
    intro i W st s acc vs OD o hr le T hO hl hv ha hi hck h
    have hlt : i < items.length := by
      have := congrArg List.length hr
      simp at this
      omega
    have hhere : items[i]? = some v := by
      have e : (items.drop i)[0]? = some v := by rw [hr]; rfl
      rw [List.getElem?_drop] at e
      simpa using e
    have hr' : items.drop (i + 1) = r := by
      have e : (items.drop i).drop 1 = r := by rw [hr]; rfl
      rw [List.drop_drop] at e
      exact e
    have hIq : ∀ q ∈ (Cb.out (D, OD)).outs, q.1 ≠ I := fun q hq => by
      rcases List.mem_cons.mp hq with rfl | hq
      · exact hID.symm
      · exact hI q hq
    have hOD : ∀ {s' : Shared} {W' : Wd} {st' : St} {o' : Obj}, Stt B ((Cb.out (D, OD)).out (I, o')) W' st' s' → ListAt s'.heap D vs.toArray := fun T' => by
      obtain ⟨o2, h1, h2⟩ := hl
      have e1 : s.heap.get? D = some OD := T.outs (D, OD) (.tail _ (.head _))
      rw [e1] at h1; cases h1
      exact ⟨OD, T'.outs (D, OD) (.tail _ (.head _)), h2⟩
    have hODc : OD.cls = .type "list" ∧ (∃ xs n, OD.data = .seq xs n) := by
      obtain ⟨o2, h1, h2, h3, h4⟩ := hl
      have e1 : s.heap.get? D = some OD := T.outs (D, OD) (.tail _ (.head _))
      rw [e1] at h1; cases h1
      exact ⟨h2, _, h4⟩
    refine comp_step (X.next (Cb.out (D, OD)) A W _ s i o _ _ rfl hA.handled le hIq T hO hck (fun av o' u s₁ e hO' T₁ ru => ?_) fun e => ?_)
    rotate_left
    · rw [hhere] at e; cases e
    rw [hhere] at e; cases e
    obtain ⟨fs, hfs⟩ := X.data _ _ hO'
    have Z' : CxOk B ((Cb.out (D, OD)).out (I, o')) lk gl := (Z.out (p := (D, OD)) (fun es n e => by obtain ⟨xs, n', h'⟩ := hODc.2; rw [h'] at e; cases e)).out (fun es n e => by rw [hfs] at e; cases e)
    have hA' : AOk ((Cb.out (D, OD)).out (I, o')) A n := (hA.out _).out _
    obtain ⟨m, hm, hml⟩ := T₁.loc
    refine wpAny_assign_Name (wpAny_storeName_local (Z.nm 0 x nm0).1 hm (fun h' hn' hs' => ?_) (by rw [Z.kind]; rfl))
    have T₂ : Stt B ((Cb.out (D, OD)).out (I, o')) W ⟨some v :: L, st.hp⟩ { s₁ with heap := h', toks := s₁.toks + 1 } := T₁.setLoc hro hm hml hn' rfl hs' nm0 Z.inj Z.nc ru
    obtain ⟨m₁, hm₁⟩ : ∃ m₁ : Str → Option Value, m₁ = fun y => if y = x then some u else m y := ⟨_, rfl⟩
    rw [← hm₁] at hn'
    have hmx : m₁ x = some u := by rw [hm₁]; simp
    obtain ⟨Cv, hCv⟩ : ∃ Cv : Cx, Cv = { ((Cb.out (D, OD)).out (I, o')) with ro := true, ons := (Cb.env.locals, m₁) :: Cb.ons } := ⟨_, rfl⟩
    have Zv : CxOk B Cv lk gl := by
      subst hCv
      exact { Z' with frs := fun env he => let ⟨a, L', b, c⟩ := Z.frs env he; ⟨a, L', b, c.elim .inl fun ⟨m, hm⟩ => .inr ⟨m, .tail _ hm⟩⟩ }
    have hAv : AOk Cv A n := by subst hCv; exact ⟨hA.frames, hA.depth, hA.units, hA.handled⟩
    have hvn : Cv.hnd = Cb.hnd := by subst hCv; rfl
    have hve : Cv.env = Cb.env := by subst hCv; rfl
    have T₂v : Stt B Cv W ⟨some v :: L, st.hp⟩ { s₁ with heap := h', toks := s₁.toks + 1 } := by
      subst hCv
      exact { T₂ with
        outer := fun q hq => (List.mem_cons.mp hq).elim (fun e => by subst e; exact hn') (T₂.outer q)
        fresh := fun a ha => let ⟨p1, p2, p3, p4⟩ := T₂.fresh a ha; ⟨p1, p2, fun q hq => (List.mem_cons.mp hq).elim (fun e => by subst e; exact p2.symm) (p3 q), p4⟩
        here := ⟨T₂.here.1, fun q hq => ⟨(fun e => by cases e), (List.mem_cons.mp hq).elim (fun e => by subst e; exact T₂.here.1) fun h => (T₂.here.2.1 q h).2⟩, T₂.here.2.2⟩ }
    have re : ∀ {W' : Wd} {st' : St} {s' : Shared}, W.le W' → Stt B Cv W' st' s' → Stt B Cv W' ⟨some v :: L, st'.hp⟩ s' := fun le' T' => by
      subst hCv
      exact { T' with
        loc := ⟨m₁, T'.outer _ (.head _), fun j y av hy hj => by
          obtain rfl := nm1 j y hy
          rw [show Cb.nm 0 = some y from hy] at nm0
          cases nm0
          simp at hj
          subst hj
          exact ⟨u, hmx, ru.mono le'⟩⟩
        cel := fun j y c av hc hj => by
          cases j with
          | zero => have := Z.nc 0 y c hc; rw [nm0] at this; cases this
          | succ j =>
            obtain ⟨oc, vc, h1, h2, h3⟩ := cel (j + 1) y c av hc hj
            exact ⟨vc, ⟨oc, T'.outs (c, oc) (.tail _ (.tail _ h1)), h2⟩, h3.mono (le.trans le')⟩ }
    have back : ∀ {W' : Wd} {st' : St} {s' : Shared}, W.le W' → Stt B Cv W' st' s' → Stt B ((Cb.out (D, OD)).out (I, o')) W' ⟨none :: L, st'.hp⟩ s' := fun le' T' => by
      subst hCv
      exact { T' with
        loc := by
          obtain ⟨m, hm, hl⟩ := T'.loc
          refine ⟨m, hm, fun j y av hy hj => ?_⟩
          obtain rfl := nm1 j y hy
          simp at hj
        cel := fun j y c av hc hj => by
          obtain ⟨oc, vc, h1, h2, h3⟩ := cel j y c av hc hj
          exact ⟨vc, ⟨oc, T'.outs (c, oc) (.tail _ (.tail _ h1)), h2⟩, h3.mono (le.trans le')⟩
        outer := fun q hq => T'.outer q (.tail _ hq)
        fresh := fun a ha => let ⟨p1, p2, p3, p4⟩ := T'.fresh a ha; ⟨p1, p2, fun q hq => p3 q (.tail _ hq), p4⟩
        here := T₂.here }
    rw [comQ_cons] at h
    -- the test
    have tests : ∀ {Q : Bool → Shared → Prop}, (∀ W' st' s' b, W.le W' → Stt B Cv W' ⟨some v :: L, st'.hp⟩ s' → ifB b (eltF Φ Cb.hnd.isSome L elt v st' fun y st₂ => chk st₂.hp ∧ comQ (condF Φ Cb.hnd.isSome L ct) (eltF Φ Cb.hnd.isSome L elt) chk (fun acc st => KK acc st.hp) r (acc ++ [y]) st₂)
        (chk st'.hp ∧ comQ (condF Φ Cb.hnd.isSome L ct) (eltF Φ Cb.hnd.isSome L elt) chk (fun acc st => KK acc st.hp) r acc st') → Q b s') →
        wpAny (model prog B.w) A (forIn (ifsOf ct) true fun c r => if r = true then do let ok ← isTrue c Cb.env (eval c Cb.env); pure (ForInStep.yield ok) else pure (ForInStep.yield r)) Q (fun _ _ => False) { s₁ with heap := h', toks := s₁.toks + 1 } := by
      intro Q k
      cases ct with
      | none => exact wpAny_tests_nil (k W st _ true (.refl W) T₂v h)
      | some c =>
        rw [← hve]
        refine wpAny_tests_one ((hc c rfl) Cv lk gl A W _ _ _ _ _ _ Zv (okc c rfl) hAv (tle hτ le) T₂v (by rw [hvn]; exact h) (fun W' st' s' b l' T' h' => k W' st' s' b l' (re l' T') h') kx_false)
    refine tests fun W₂ st₂ s₂ b l₂ T₃ h₂ => ?_
    cases b with
    | false =>
      have h₃ := h₂
      simp only [Bool.false_eq_true, if_false]
      have T₄ := back l₂ T₃
      refine ih (i + 1) W₂ st₂ s₂ acc vs OD o' hr' (le.trans l₂) T₄ hO' ?_ (hv.mono l₂) (by omega) (by omega) h₃.1 h₃.2
      exact hOD T₄
    | true =>
      have h₃ := h₂
      simp only [if_true]
      have := he Cv lk gl A W₂ ⟨some v :: L, st₂.hp⟩ s₂ (fun y st₃ => chk st₃.hp ∧ comQ (condF Φ Cb.hnd.isSome L ct) (eltF Φ Cb.hnd.isSome L elt) chk (fun acc st => KK acc st.hp) r (acc ++ [y]) st₃) (fun _ _ => False)
        (fun x s₄ => wpAny (model prog B.w) A (call (.builtin "list.append") [.ref D, x]) (fun _ s₅ => codeAny (model prog B.w) A (.compLoop (.ListComp (emb elt) [⟨.Name ‹_› px, iter, ifsOf ct, 0⟩] scope pos) 0 (.ref I) (.ref D) Cb.env) R s₅) (fun _ _ => False) s₄)
        (fun _ _ => False) Zv ok hAv (tle hτ (le.trans l₂)) T₃ (by rw [hvn]; exact h₃) (fun W₃ st₃ s₃ y w l₃ T₅ ry h₄ => ?_) kx_false
      · rw [hve] at this; exact this
      · have T₆ := back (l₂.trans l₃) T₅
        have hsz : vs.toArray.size ≤ sizeLine := by rw [List.size_toArray, hv.length, sizeLine_eq]; omega
        refine append_list (hOD T₆) (fun h'' hl'' hs'' => ?_) hsz
        have hIat : s₃.heap.get? I = some o' := T₆.outAt
        have T₇ := T₆.drop
        obtain ⟨oD, h1, h2⟩ := id hl''
        have T₈ : Stt B (Cb.out (D, oD)) W₃ ⟨none :: L, st₃.hp⟩ { s₃ with heap := h'' } := T₇.reout (tk := s₃.toks) hD hDo hODc.1 hODc.2 hs'' h1
        have T₉ := T₈.out ((hs''.2 I hID).trans hIat) T₆.outFresh (T₆.here.2.2 (I, o') (.head _))
        refine ih (i + 1) W₃ st₃ _ (acc ++ [y]) (vs ++ [w]) oD o' hr' ((le.trans l₂).trans l₃) T₉ hO' (by simpa using hl'') ((hv.mono (l₂.trans l₃)).app (.cons ry .nil)) (by rw [List.length_append, List.length_singleton]; omega) (by omega) h₄.1 h₄.2
end
end Mine
end

noncomputable section
open PySem PySem.W PyProof.Rows PySem.Calls PySem.Spec PySem.SeqAt PySem.Builtin
set_option maxRecDepth 100000
namespace Mine

theorem lookup_put {α : Type} {y name : Str} {c c' : α} {l : List (Str × α)} (h : ((name, c) :: l).lookup y = some c') : (y = name ∧ c = c') ∨ l.lookup y = some c' := by
  rw [List.lookup_cons] at h
  cases e : y == name with
  | true => rw [e] at h; exact .inl ⟨eq_of_beq e, Option.some.inj h⟩
  | false => rw [e] at h; exact .inr h
theorem lookup_more {α : Type} {y name : Str} {c : α} {l : List (Str × α)} (h : (l.lookup y).isSome = true) : (((name, c) :: l).lookup y).isSome = true := by
  rw [List.lookup_cons]
  cases y == name with
  | true => rfl
  | false => exact h
theorem closure_ok (env : Env) : ∀ (names : List (Str × NameKind)) (acc : List (Str × Addr)), (∀ y ∈ names, y.2 = .free → ∃ c, env.cells.lookup y.1 = some c) → (∀ y c, acc.lookup y = some c → env.cells.lookup y = some c) →
    ∃ cl, (forIn (m := Sem) names acc fun (x : Str × NameKind) (r : List (Str × Addr)) => match x with
      | (name, kind) => if (kind == .free) = true then do let c ← cellOf env name; pure (ForInStep.yield ((name, c) :: r)) else pure (ForInStep.yield r)) = pure cl ∧
      (∀ y c, cl.lookup y = some c → env.cells.lookup y = some c) ∧ ∀ y, ((y, NameKind.free) ∈ names ∨ (acc.lookup y).isSome = true) → (cl.lookup y).isSome = true := by
  intro names
  induction names with
  | nil => intro acc _ h; exact ⟨acc, by rw [List.forIn_nil], h, fun y hy => hy.elim (fun q => by cases q) id⟩
  | cons p r ih =>
    intro acc hf hg
    obtain ⟨name, kind⟩ := p
    rw [List.forIn_cons]
    by_cases hk : kind = .free
    · subst hk
      obtain ⟨c, hc⟩ := hf _ (.head _) rfl
      dsimp only at hc
      have hc' : cellOf env name = pure c := by unfold cellOf; rw [hc]
      have e1 : (NameKind.free == NameKind.free) = true := by decide
      obtain ⟨cl, h1, h2, h3⟩ := ih ((name, c) :: acc) (fun y hy => hf y (.tail _ hy)) (fun y c' hy => by
        rcases lookup_put hy with ⟨rfl, rfl⟩ | hy
        · exact hc
        · exact hg y c' hy)
      refine ⟨cl, Eq.trans ?_ h1, h2, fun y hy => h3 y ?_⟩
      · show (if (NameKind.free == .free) = true then _ else _) >>= _ = _
        rw [if_pos e1, hc', pure_bind, pure_bind]
      rcases hy with hy | hy
      · rcases List.mem_cons.mp hy with q | hy
        · cases q; right; simp
        · exact .inl hy
      · right
        exact lookup_more hy
    · have e1 : (kind == NameKind.free) = false := beq_eq_false_iff_ne.mpr hk
      obtain ⟨cl, h1, h2, h3⟩ := ih acc (fun y hy => hf y (.tail _ hy)) hg
      refine ⟨cl, Eq.trans ?_ h1, h2, fun y hy => h3 y ?_⟩
      · show (if (kind == .free) = true then _ else _) >>= _ = _
        rw [e1, if_neg Bool.false_ne_true, pure_bind]
      rcases hy with hy | hy
      · rcases List.mem_cons.mp hy with q | hy
        · cases q; exact absurd rfl hk
        · exact .inl hy
      · exact .inr hy

theorem closureFor_ok (env : Env) (sc : Scope) (hf : ∀ y ∈ sc.names, y.2 = .free → ∃ c, env.cells.lookup y.1 = some c) :
    ∃ cl, closureFor sc env = pure cl ∧ ∀ y c, sc.names.lookup y = some .free → env.cells.lookup y = some c → cl.lookup y = some c := by
  obtain ⟨cl, h1, h2, h3⟩ := closure_ok env sc.names [] hf (fun _ _ e => by cases e)
  refine ⟨cl, ?_, fun y c hy hc => ?_⟩
  · unfold closureFor
    refine Eq.trans ?_ h1
    rw [← bind_pure (forIn (m := Sem) sc.names _ _)]
  · have hm : (y, NameKind.free) ∈ sc.names := by
      obtain ⟨l₁, l₂, e, _⟩ := List.lookup_eq_some_iff.mp hy
      rw [e]; simp
    have := h3 y (.inl hm)
    cases e : cl.lookup y with
    | none => rw [e] at this; cases this
    | some c' => have := h2 y c' e; rw [hc] at this; cases this; rfl

theorem lookup_relabel (env : Env) (sc : Scope) (y : Str) : (relabel sc env).names.lookup y = (sc.names.lookup y).map fun k => if (k == .free && env.scope.kind == .function && env.kindOf y == some .cell) = true then .cell else k := by
  show List.lookup y (sc.names.map _) = _
  generalize sc.names = l
  induction l with
  | nil => rfl
  | cons p r ih =>
    obtain ⟨n, k⟩ := p
    rw [List.map_cons]
    have e : ∀ (b : Bool) , (if b = true then (n, NameKind.cell) else (n, k)) = (n, if b = true then NameKind.cell else k) := fun b => by cases b <;> rfl
    dsimp only
    rw [e, List.lookup_cons, List.lookup_cons]
    by_cases q : y = n
    · subst q; simp
    · rw [beq_eq_false_iff_ne.mpr q]; exact ih

section
variable {prog : Program} {K : Frag} {τ : List (Addr × List Value)} {B : Bx} {C : Cx} {lk : LK} {gl : Str → Bool} {A : Around} {E : Value → Shared → Prop} {W : Wd} {st : St} {s : Shared} {n : Nat}

theorem Stt.sbDict {L' : Addr} {o : Obj} {es : Array DictEntry} {ep : Nat} {h' : Heap} {tk : Nat} (T : Stt B C W st s) (hL : s.heap.get? L' = some o) (hd : o.data = .dict es ep) (hb : B.base.get? L' = none) (hl : L' ≠ C.env.locals) (ho : ∀ q ∈ C.ons, q.1 ≠ L') (hq : ∀ q ∈ C.outs, q.1 ≠ L')
    (hr : ∀ a ∈ W.ρ.flatten, a ≠ L') (k : Heap.SameBut L' s.heap h') : Stt B C W st { s with heap := h', toks := tk } := by
  have ncell : ∀ {c : Addr} {v : Option Value}, s.heap.IsCell c v → c ≠ L' := by
    rintro c v ⟨oa, h1, h2⟩ rfl
    rw [hL] at h1; cases h1; rw [hd] at h2; cases h2
  obtain ⟨m, hm, hlc⟩ := T.loc
  refine { gens := T.gens, drawn := T.drawn, os := T.os, stays := fun b ob e => (k.2 b fun q => by rw [q, hb] at e; cases e).trans (T.stays b ob e), loc := ⟨m, hm.sameBut k hl.symm, hlc⟩, cel := ?_, outer := ?_, outs := ?_, objs := ?_, tups := ?_, nodup := T.nodup, fresh := T.fresh, here := T.here, hnd := ?_ }
  · intro i x c av e e'
    obtain ⟨v, a, b⟩ := T.cel i x c av e e'
    exact ⟨v, a.sameBut k (ncell a), b⟩
  · exact fun q hq' => (T.outer q hq').sameBut k (ho q hq')
  · exact fun q hq' => (k.2 _ (hq q hq')).trans (T.outs q hq')
  · refine ⟨T.objs.len, fun i ob hi => ?_⟩
    obtain ⟨r, hr', x⟩ := T.objs.at_ i ob hi
    exact ⟨r, hr', x.but k fun h => hr _ (List.mem_flatten.mpr ⟨r, List.mem_of_getElem? hr', h⟩) rfl⟩
  · intro t ht
    refine isTup_but k ?_ (T.tups t ht)
    intro e
    obtain ⟨oa, h1, h2, nn, h3⟩ := T.tups t ht
    rw [e, hL] at h1; cases h1
    rw [hd] at h3; cases h3
  · refine T.hnd.at fun b e ob h => (k.2 b ?_).trans h
    rintro rfl
    have hh := T.hnd
    rw [e] at hh
    obtain ⟨ox, vs, h1, h2, _⟩ := hh
    rw [hL] at h1; cases h1; rw [hd] at h2; cases h2
end

section
variable {prog : Program} {K : Frag} {τ : List (Addr × List Value)} {B : Bx} {Φ : Fn} {n : Nat}

set_option backward.eqns.nonrecursive false in
noncomputable def Cx.comp (C : Cx) (sc : Scope) (x : Str) (cl : List (Str × Addr)) (Lc : Addr) (m : Str → Option Value) (l : List (Addr × Obj)) : Cx :=
  { env := compEnvC sc cl Lc C.env
    nm := fun i => if i = 0 then some x else none
    cl := fun i => match i with
      | 0 => none
      | i + 1 => (C.cl i).bind fun q => if (sc.names.lookup q.1 == some .free && q.1 != x) = true then some q else none
    ons := (C.env.locals, m) :: C.ons, outs := l ++ C.outs, envs := C.envs, hnd := C.hnd, ro := false }

theorem scOk_split {lk : LK} {x : Str} {sc : Scope} (h : scOk lk x sc = true) : sc.kind = .function ∧ (∀ y ∈ sc.names, y.2 ≠ .cell) ∧ (∀ y ∈ sc.names, y.2 = .local → sc.names.lookup y.1 = some .local) ∧
    (∀ y ∈ sc.names, y.2 = .free → ∃ i, lk i = some (y.1, true)) ∧ sc.names.lookup x = some .local ∧ (x == ("__debug__" : Str)) = false := by
  simp only [scOk, Bool.and_eq_true, List.all_eq_true, Bool.or_eq_true, beq_iff_eq, bne_iff_ne, Bool.not_eq_true'] at h
  obtain ⟨⟨⟨h1, h2⟩, h3⟩, h4⟩ := h
  refine ⟨h1, fun y hy => (h2 y hy).1.1, fun y hy hl => (h2 y hy).1.2.resolve_left (fun q => q hl), fun y hy hf => ?_, h3, h4⟩
  have := (h2 y hy).2.resolve_left (fun q => q hf)
  obtain ⟨i, _, hi⟩ := List.any_eq_true.mp this
  exact ⟨i, beq_iff_eq.mp hi⟩

theorem comp_cx {C : Cx} {lk : LK} {gl : Str → Bool} (Z : CxOk B C lk gl) {x : Str} {sc : Scope} (hs : scOk lk x sc = true) {cl : List (Str × Addr)} {Lc : Addr} {m : Str → Option Value} {l : List (Addr × Obj)}
    (hcl : ∀ y c, sc.names.lookup y = some .free → C.env.cells.lookup y = some c → cl.lookup y = some c) (hl : ∀ p ∈ l, ∃ v, p.2.data = .cell v) : CxOk B (C.comp sc x cl Lc m l) (lkC lk x sc) (glS sc) := by
  obtain ⟨h1, h2, h3, h4, h5, h6⟩ := scOk_split hs
  have kd : ∀ y k, sc.names.lookup y = some k → (C.comp sc x cl Lc m l).env.kindOf y = some (if (k == NameKind.free && C.env.scope.kind == .function && C.env.kindOf y == some .cell) = true then NameKind.cell else k) := fun y k e => by
    show (relabel sc C.env).names.lookup y = _
    rw [lookup_relabel, e]; rfl
  refine { kind := h1, globals := Z.globals, builtins := Z.builtins, lk := ?_, nm := ?_, inj := ?_, nc := ?_, cl := ?_, gl := ?_, outs := ?_, frs := ?_ }
  · intro i y b e
    cases i with
    | zero => cases e; exact rfl
    | succ i =>
      obtain ⟨q, hz, e⟩ := Option.bind_eq_some_iff.mp (show (lk i).bind _ = some (y, b) from e)
      obtain ⟨hc, rfl⟩ := ite_some e
      rw [Bool.and_eq_true] at hc
      obtain ⟨rfl, hc⟩ := hc
      obtain ⟨c, hc'⟩ := Z.lk i y true hz
      exact ⟨c, Option.bind_eq_some_iff.mpr ⟨_, hc', if_pos hc⟩⟩
  · intro i y e
    obtain ⟨hi, rfl⟩ := ite_some (show (if i = 0 then some x else none) = some y from e)
    exact ⟨by rw [kd x _ h5]; rfl, h6⟩
  · intro i j y e e'
    exact (ite_some (show (if i = 0 then some x else none) = some y from e)).1.trans (ite_some (show (if j = 0 then some x else none) = some y from e')).1.symm
  · intro i y c e
    cases i with
    | zero => cases e
    | succ i => rfl
  · intro i y c e
    cases i with
    | zero => cases e
    | succ i =>
      obtain ⟨q, hz, e⟩ := Option.bind_eq_some_iff.mp (show (C.cl i).bind _ = some (y, c) from e)
      obtain ⟨hc, rfl⟩ := ite_some e
      simp only [Bool.and_eq_true, beq_iff_eq, bne_iff_ne] at hc
      obtain ⟨a1, a2, a3, a4⟩ := Z.cl i y c hz
      refine ⟨?_, hcl y c hc.1 a2, a3, a4⟩
      rw [kd y _ hc.1]
      cases (NameKind.free == NameKind.free && C.env.scope.kind == ScopeKind.function && C.env.kindOf y == some NameKind.cell) with
      | true => exact .inl rfl
      | false => exact .inr rfl
  · intro y e
    simp only [glS, Bool.and_eq_true, beq_iff_eq, Bool.not_eq_true'] at e
    exact ⟨by rw [kd y _ e.1]; rfl, e.2⟩
  · intro q hq es n e
    rcases List.mem_append.mp hq with h | h
    · obtain ⟨v, hv⟩ := hl q h
      rw [hv] at e; cases e
    · exact Z.outs q h es n e
  · intro env he
    obtain ⟨a, L, b, c⟩ := Z.frs env he
    refine ⟨a, L, b, .inr ?_⟩
    rcases c with rfl | ⟨m', hm⟩
    · exact ⟨m, .head _⟩
    · exact ⟨m', .tail _ hm⟩
end
end Mine
end

noncomputable section
open PySem PySem.W PyProof.Rows PySem.Calls PySem.Spec PySem.SeqAt PySem.Builtin
set_option maxRecDepth 100000
namespace Mine

section
variable {prog : Program} {K : Frag} {τ : List (Addr × List Value)} {B : Bx} {Φ : Fn} {n : Nat}

theorem folded_ok {e : E} (h : isRaw e = false) (env : Env) (x : Value) : foldedSetIterable (emb e) env x = pure x := by
  cases e <;> first | rfl | cases h

theorem com_coreG (G : Gx K τ B) {use : Option (Value → Sem Unit)} {ct : Option E} {elt it : E} {x : Str} {px : Pos} {sc : Scope} {p : Pos} (he : SEv prog τ B Φ n elt) (hc : ∀ c, ct = some c → SEt prog τ B Φ n c)
    {C : Cx} {lk : LK} {gl : Str → Bool} {A : Around} {W : Wd} {st : St} {s : Shared} {Q : QV} {X : QX} {Q' E' : Value → Shared → Prop}
    (Z : CxOk B C lk gl) (oe : okE (lkC lk x sc) (glS sc) elt = true) (oc : ∀ c, ct = some c → okE (lkC lk x sc) (glS sc) c = true) (os : scOk lk x sc = true) (or : isRaw it = false)
    (hA : AOk C A n) (hτ : ∀ t ∈ τ, t ∈ W.τ) (T : Stt B C W st s)
    (h : ∀ Q'' : Value → Shared → Prop, (∀ W₁ st₁ s₁ av v, W.le W₁ → Stt B C W₁ st₁ s₁ → VR W₁ av v → (iterQ C.hnd.isSome av st₁.hp fun items chk =>
      comQ (condF Φ C.hnd.isSome st₁.loc ct) (eltF Φ C.hnd.isSome st₁.loc elt) chk (fun acc st₂ => Q (.obj st₂.hp.length) ⟨st₁.loc, st₂.hp ++ [.list acc]⟩) items [] st₁) → Q'' v s₁) → wpAny (model prog B.w) A (eval (emb it) C.env) Q'' E' s)
    (fin : ∀ W' st' s' D Lc mc av, W.le W' → Stt B C W' st' s' → VR W' av (.ref D) → Q av st' → s'.heap.Ns Lc mc → Lc ≠ C.env.locals →
      (∀ W'' st'' s'' h', Stt B C W'' st'' s'' → s''.heap.Ns Lc mc → (∀ a ∈ W''.ρ.flatten, a ≠ Lc) → Heap.SameBut Lc s''.heap h' → Stt B C W'' st'' { s'' with heap := h' }) → (∀ a ∈ W'.ρ.flatten, a ≠ Lc) → compPost (model prog B.w) A E' use Q' (.ref D) Lc (.ok .next) s')
    (kx : KX B C W X E') : wpAny (model prog B.w) A (comprehension (.ListComp (emb elt) [⟨.Name x px, emb it, ifsOf ct, 0⟩] sc p) sc C.env (firstIterPos [⟨.Name x px, emb it, ifsOf ct, 0⟩] p) (newList []) (firstAsync [⟨.Name x px, emb it, ifsOf ct, 0⟩]) (firstIter [⟨.Name x px, emb it, ifsOf ct, 0⟩] C.env) use) Q' E' s := by
  obtain ⟨h1, h2, h3, h4, h5, h6⟩ := scOk_split os
  obtain ⟨cl, hclos, hcl⟩ := closureFor_ok C.env sc fun y hy hf => by
    obtain ⟨i, hi⟩ := h4 y hy hf
    obtain ⟨c, hc⟩ := Z.lk i y.1 true hi
    exact ⟨c, (Z.cl i y.1 c hc).2.1⟩
  refine wpAny_comprehension_free (use := use) rfl (fun y => folded_ok or _ _) hclos h1 h3 ?_
  refine h _ (fun W₁ st₁ s₁ av v l₁ T₁ r₁ h₁ => ?_)
  refine iter_ok G hA T₁ r₁ h₁ fun I o Ob items chk h' XT hOb T₂ hIq hck h₂ hz => ?_
  refine wpAny_newObj_type (wpAny_newFunctionEnv h2 (by intro y hy; simp at hy) (fun h₃ hns hsb => ?_) h1)
  dsimp only at hns hsb ⊢
  generalize hOD : ({ cls := .type "list", dict := none, data := .seq ([] : List Value).toArray } : Obj) = OD at hns hsb ⊢
  have hODd : OD.data = .seq #[] := by rw [← hOD]
  have hH2 : (h'.push OD).objs.size = h'.objs.size + 1 := Heap.size_push ..
  have old : ∀ b ob, h'.get? b = some ob → h₃.get? b = some ob := fun b ob e => hsb.extBut b ob (by rw [hH2]; exact Nat.ne_of_lt (Nat.lt_succ_of_lt (Heap.lt_size e))) (Heap.get?_push_of_some _ (Heap.get?_push_of_some _ e))
  have hD₃ : h₃.get? h'.objs.size = some OD := hsb.extBut _ _ (by rw [hH2]; exact Nat.ne_of_lt (Nat.lt_succ_self _)) (Heap.get?_push_of_some _ (Heap.get?_push_size _ (by rw [← hOD]; rfl)))
  have hI₂ : h'.get? I = some o := T₂.outAt
  have T₂d := T₂.drop
  obtain ⟨m, Hm⟩ := T₂d.hereOf
  obtain ⟨l, Hl⟩ := cells_out T₂d
  have hbase : ∀ {a : Addr}, h'.objs.size ≤ a → B.base.get? a = none := fun {a} ha => by
    cases e : B.base.get? a with
    | none => rfl
    | some ob => exact absurd (Heap.lt_size (T₂d.stays _ _ e)) (Nat.not_lt.mpr ha)
  have lt : ∀ {a : Addr} {ob : Obj}, h'.get? a = some ob → a < h'.objs.size := fun e => Heap.lt_size e
  -- the context of the comprehension
  have Zb : CxOk B (C.comp sc x cl (h'.push OD).objs.size m l) (lkC lk x sc) (glS sc) := comp_cx Z os hcl fun p hp => (Hl.at_ p hp).2
  have hAb : AOk (C.comp sc x cl (h'.push OD).objs.size m l) A n := ⟨hA.frames, hA.depth, hA.units, hA.handled⟩
  have Lcne : ∀ {a : Addr} {ob : Obj}, h'.get? a = some ob → a ≠ (h'.push OD).objs.size := fun e => by rw [hH2]; exact Nat.ne_of_lt (Nat.lt_succ_of_lt (Heap.lt_size e))
  have T₃ : Stt B (C.comp sc x cl (h'.push OD).objs.size m l) W₁ ⟨none :: st₁.loc, st₁.hp⟩ { s₁ with heap := h₃, toks := s₁.toks + ([] : List (Str × Value)).length } := by
    refine T₂d.enter (s := { s₁ with heap := h' }) Hm Hl (C' := C.comp sc x cl (h'.push OD).objs.size m l) old (by show h'.objs.size ≤ (h'.push OD).objs.size; rw [hH2]; exact Nat.le_succ _) rfl rfl rfl hns (fun i y av hy hj => ?_) (fun i y c av hc hj => ?_)
    · obtain ⟨rfl, _⟩ := ite_some (show (if i = 0 then some x else none) = some y from hy)
      cases hj
    · cases i with
      | zero => cases hc
      | succ i =>
        obtain ⟨q, hz, hc⟩ := Option.bind_eq_some_iff.mp (show (C.cl i).bind _ = some (y, c) from hc)
        obtain ⟨hc, rfl⟩ := ite_some hc
        obtain ⟨v', a, b⟩ := T₂d.cel i y c av hz hj
        exact ⟨v', let ⟨oc, q, r⟩ := a; ⟨oc, old _ _ q, r⟩, b⟩
  have hDrho : ∀ a ∈ W₁.ρ.flatten, h'.objs.size ≠ a := fun a ha => by
    obtain ⟨ob, e, _⟩ := T₂d.rho a ha
    exact (Nat.ne_of_lt (lt e)).symm
  have T₄ := (T₃.out (I := h'.objs.size) (o := OD) hD₃ hDrho (by show h'.objs.size ≠ (h'.push OD).objs.size; rw [hH2]; exact Nat.ne_of_lt (Nat.lt_succ_self _))).out (I := I) (o := o) (old _ _ hI₂) T₂.outFresh (Lcne hI₂)
  have hloop : ∀ s₃ : Shared, s₃ = { s₁ with heap := h₃, toks := s₁.toks + ([] : List (Str × Value)).length } → codeAny (model prog B.w) A (.compLoop (.ListComp (emb elt) [⟨.Name x px, emb it, ifsOf ct, 0⟩] sc p) 0 (.ref I) (.ref h'.objs.size) (compEnvC sc cl (h'.push OD).objs.size C.env))
      (compPost (model prog B.w) A E' use Q' (.ref h'.objs.size) (h'.push OD).objs.size) s₃ := by
    rintro s₃ rfl
    refine com_loop (Cb := C.comp sc x cl (h'.push OD).objs.size m l) (KK := fun (acc : List AV) (hp : Hp) => Q (.obj hp.length) ⟨st₁.loc, hp ++ [AO.list acc]⟩) (L := st₁.loc) he hc oe oc Zb hAb (tle hτ l₁) XT ?_ (Nat.ne_of_lt (lt hI₂)) (hbase (Nat.le_refl _)) ?_ rfl rfl ?_ ?_ hz ?_ items 0 W₁ st₁ _ [] [] OD o rfl (.refl _) T₄ hOb ⟨OD, hD₃, by rw [← hOD], by rw [← hOD], 0, hODd⟩ .nil (by simp) (by omega) hck h₂
    · intro q hq
      rcases List.mem_append.mp hq with hq | hq
      · rintro rfl
        obtain ⟨q1, v', q2⟩ := Hl.at_ q hq
        rw [show ({ s₁ with heap := h' } : Shared).heap.get? q.1 = some o from hI₂] at q1
        cases q1
        obtain ⟨fs, hfs⟩ := XT.data _ _ hOb
        rw [hfs] at q2; cases q2
      · exact hIq q hq
    · intro q hq
      rcases List.mem_append.mp hq with hq | hq
      · exact Nat.ne_of_lt (lt (Hl.at_ q hq).1)
      · exact Nat.ne_of_lt (lt (T₂d.outs q hq))
    · intro i y hy
      exact (ite_some (show (if i = 0 then some x else none) = some y from hy)).1
    · intro i y c av hc hj
      cases i with
      | zero => cases hc
      | succ i =>
        obtain ⟨q, hz, hc⟩ := Option.bind_eq_some_iff.mp (show (C.cl i).bind _ = some (y, c) from hc)
        obtain ⟨hc, rfl⟩ := ite_some hc
        obtain ⟨oc, v', a, b⟩ := Hl.all i y c av hz hj
        exact ⟨oc, v', List.mem_append_left _ a, b⟩
    · intro W₅ hp s₅ acc vs OD' le₅ T₅ hl₅ hv₅ hz₅ hKK
      obtain ⟨mc, hmc, _⟩ := T₅.loc
      have T₆ : Stt B C W₅ ⟨st₁.loc, hp⟩ s₅ := T₂d.leave Hm Hl T₅ le₅ rfl (fun q hq => .tail _ hq) rfl
      have hDl : h'.objs.size ≠ C.env.locals := by
        obtain ⟨oL, _, _, e, _⟩ := Hm.ns
        exact (Nat.ne_of_lt (lt e)).symm
      have T₇ : Stt B C ⟨W₅.ρ ++ [[h'.objs.size]], W₅.τ⟩ ⟨st₁.loc, hp ++ [.list acc]⟩ s₅ := by
        refine (T₆.out T₅.outAt T₅.outFresh hDl).adopt (hbase (Nat.le_refl _)) (Nat.ne_of_gt (B.low T₂d.stays)) ?_ ?_ hl₅ hv₅ (by omega)
        · exact fun q hq => Nat.ne_of_lt (lt (T₂d.outs q hq))
        · intro q hq
          obtain ⟨_, _, _, e, _⟩ := T₂d.outer q hq
          exact Nat.ne_of_lt (lt e)
      refine fin ⟨W₅.ρ ++ [[h'.objs.size]], W₅.τ⟩ _ s₅ h'.objs.size _ mc _ (l₁.trans (le₅.trans ⟨⟨_, rfl⟩, fun _ h => h⟩)) T₇ (.obj (r := []) ?_) hKK hmc ((T₅.here.2.1 (C.env.locals, m) (.head _)).1 rfl).symm (fun W'' st'' s'' h₆ T'' hn'' hr'' hs₆ => ?_) ?_
      · rw [← T₆.objs.len]; simp
      · obtain ⟨oc, esc, nc, hoc, hdc, _⟩ := hn''
        refine T''.sbDict (tk := s''.toks) hoc hdc T₅.here.1 ?_ ?_ ?_ hr'' hs₆
        · exact ((T₅.here.2.1 (C.env.locals, m) (.head _)).1 rfl).symm
        · exact fun q hq => (T₅.here.2.1 q (.tail _ hq)).1 rfl
        · exact fun q hq => T₅.here.2.2 q (.tail _ (List.mem_append_right _ hq))
      · intro a ha
        rw [List.flatten_append, List.mem_append] at ha
        rcases ha with ha | ha
        · exact (T₅.fresh a ha).2.1
        · obtain rfl : a = h'.objs.size := by simpa using ha
          exact T₅.here.2.2 (_, OD') (.head _)
  exact codeAny_compStart_list (hloop _ rfl) (XT.self A _ 0 o _ _ (old _ _ hI₂) hOb (hloop _ rfl))

theorem com_core (G : Gx K τ B) {use : Option (Value → Sem Unit)} {ct : Option E} {elt it : E} {x : Str} {px : Pos} {sc : Scope} {p : Pos} (hi : SEv prog τ B Φ n it) (he : SEv prog τ B Φ n elt) (hc : ∀ c, ct = some c → SEt prog τ B Φ n c)
    {C : Cx} {lk : LK} {gl : Str → Bool} {A : Around} {W : Wd} {st : St} {s : Shared} {Q : QV} {X : QX} {Q' E' : Value → Shared → Prop}
    (Z : CxOk B C lk gl) (oi : okE lk gl it = true) (oe : okE (lkC lk x sc) (glS sc) elt = true) (oc : ∀ c, ct = some c → okE (lkC lk x sc) (glS sc) c = true) (os : scOk lk x sc = true) (or : isRaw it = false)
    (hA : AOk C A n) (hτ : ∀ t ∈ τ, t ∈ W.τ) (T : Stt B C W st s)
    (h : wp Φ C.hnd.isSome false it st (fun vi st₁ => iterQ C.hnd.isSome vi st₁.hp fun items chk =>
      comQ (condF Φ C.hnd.isSome st₁.loc ct) (eltF Φ C.hnd.isSome st₁.loc elt) chk (fun acc st₂ => Q (.obj st₂.hp.length) ⟨st₁.loc, st₂.hp ++ [.list acc]⟩) items [] st₁) X)
    (fin : ∀ W' st' s' D Lc mc av, W.le W' → Stt B C W' st' s' → VR W' av (.ref D) → Q av st' → s'.heap.Ns Lc mc → Lc ≠ C.env.locals →
      (∀ W'' st'' s'' h', Stt B C W'' st'' s'' → s''.heap.Ns Lc mc → (∀ a ∈ W''.ρ.flatten, a ≠ Lc) → Heap.SameBut Lc s''.heap h' → Stt B C W'' st'' { s'' with heap := h' }) → (∀ a ∈ W'.ρ.flatten, a ≠ Lc) → compPost (model prog B.w) A E' use Q' (.ref D) Lc (.ok .next) s')
    (kx : KX B C W X E') : wpAny (model prog B.w) A (comprehension (.ListComp (emb elt) [⟨.Name x px, emb it, ifsOf ct, 0⟩] sc p) sc C.env (firstIterPos [⟨.Name x px, emb it, ifsOf ct, 0⟩] p) (newList []) (firstAsync [⟨.Name x px, emb it, ifsOf ct, 0⟩]) (firstIter [⟨.Name x px, emb it, ifsOf ct, 0⟩] C.env) use) Q' E' s :=
  com_coreG G he hc Z oe oc os or hA hτ T (fun _ hq => hi C lk gl A W st s _ X _ E' Z oi hA hτ T h hq kx) fin kx

theorem com_sound (G : Gx K τ B) {ct : Option E} {elt it : E} {x : Str} {px : Pos} {sc : Scope} {p : Pos} (hi : SEv prog τ B Φ n it) (he : SEv prog τ B Φ n elt) (hc : ∀ c, ct = some c → SEt prog τ B Φ n c)
    {C : Cx} {lk : LK} {gl : Str → Bool} {A : Around} {W : Wd} {st : St} {s : Shared} {Q : QV} {X : QX} {Q' E' : Value → Shared → Prop}
    (Z : CxOk B C lk gl) (oi : okE lk gl it = true) (oe : okE (lkC lk x sc) (glS sc) elt = true) (oc : ∀ c, ct = some c → okE (lkC lk x sc) (glS sc) c = true) (os : scOk lk x sc = true) (or : isRaw it = false)
    (hA : AOk C A n) (hτ : ∀ t ∈ τ, t ∈ W.τ) (T : Stt B C W st s)
    (h : wp Φ C.hnd.isSome false it st (fun vi st₁ => iterQ C.hnd.isSome vi st₁.hp fun items chk =>
      comQ (condF Φ C.hnd.isSome st₁.loc ct) (eltF Φ C.hnd.isSome st₁.loc elt) chk (fun acc st₂ => Q (.obj st₂.hp.length) ⟨st₁.loc, st₂.hp ++ [.list acc]⟩) items [] st₁) X)
    (kv : KV B C W Q Q') (kx : KX B C W X E') : wpAny (model prog B.w) A (eval (.ListComp (emb elt) [⟨.Name x px, emb it, ifsOf ct, 0⟩] sc p) C.env) Q' E' s := by
  rw [eval_ListComp]
  refine com_core G (use := none) hi he hc Z oi oe oc os or hA hτ T h (fun W' st' s' D Lc mc av le T' rv hq hn hl sb hr => ?_) kx
  exact ⟨mc, hn, fun h' hs' => kv W' st' _ av _ le (sb W' st' s' h' T' hn hr hs') rv hq⟩
end
end Mine
end

noncomputable section
open PySem PySem.W PyProof.Rows PySem.Calls PySem.Spec PySem.SeqAt PySem.Builtin
set_option maxRecDepth 100000
set_option maxHeartbeats 4000000
namespace Mine

section
variable {prog : Program} {K : Frag} {τ : List (Addr × List Value)} {B : Bx} {Φ : Fn} {n : Nat}

theorem se_com (G : Gx K τ B) {elt it : E} {x : Str} {px : Pos} {sc : Scope} {p : Pos} (hi : SEv prog τ B Φ n it) (he : SEv prog τ B Φ n elt) : SEv prog τ B Φ n (.com elt x px it sc p) := fun C lk gl A W st s Q X Q' E' Z ok hA hτ T h kv kx => by
  simp only [oq29, Bool.and_eq_true, Bool.not_eq_true'] at ok
  simp only [wq29] at h
  exact com_sound (ct := none) G hi he (fun _ e => nomatch e) Z ok.1.1.1 ok.1.1.2 (fun _ e => nomatch e) ok.1.2 ok.2 hA hτ T h kv kx
theorem se_comc (G : Gx K τ B) {elt it c : E} {x : Str} {px : Pos} {sc : Scope} {p : Pos} (hi : SEv prog τ B Φ n it) (he : SEv prog τ B Φ n elt) (hc : SEt prog τ B Φ n c) : SEv prog τ B Φ n (.comc elt x px it c sc p) := fun C lk gl A W st s Q X Q' E' Z ok hA hτ T h kv kx => by
  simp only [oq30, Bool.and_eq_true, Bool.not_eq_true'] at ok
  simp only [wq30] at h
  exact com_sound (ct := some c) G hi he (fun _ e => by cases e; exact hc) Z ok.1.1.1.1 ok.1.1.1.2 (fun _ e => by cases e; exact ok.1.1.2) ok.1.2 ok.2 hA hτ T h kv kx

theorem st_never {e : E} (h : ∀ hd st Q X, ¬ wp Φ hd true e st Q X) : SEt prog τ B Φ n e := fun C lk gl A W st s Q X Q' E' Z ok hA hτ T hw kv kx => (h _ _ _ _ hw).elim
theorem sv_never {e : E} (h : ∀ hd st Q X, ¬ wp Φ hd false e st Q X) : SEv prog τ B Φ n e := fun C lk gl A W st s Q X Q' E' Z ok hA hτ T hw kv kx => (h _ _ _ _ hw).elim

theorem sv_dget (G : Gx K τ B) (k v : Int) (pk pv pd : Pos) (x : Str) (i : Nat) (px : Pos) (j : Int) (pj pa p : Pos) : SEv prog τ B Φ n (.dget k v pk pv pd x i px j pj pa p) := se_dget G
theorem st_dget (k v : Int) (pk pv pd : Pos) (x : Str) (i : Nat) (px : Pos) (j : Int) (pj pa p : Pos) : SEt prog τ B Φ n (.dget k v pk pv pd x i px j pj pa p) := st_never fun _ _ _ _ h => absurd h.1 (by decide)
theorem finQ_false (Q : QV) : finQ false Q = Q := rfl
mutual
theorem se_all (G : Gx K τ B) (F : FnOk prog τ B Φ n) : ∀ e : E, SEv prog τ B Φ n e ∧ SEt prog τ B Φ n e
  | .raw _ => ⟨sv_never fun _ _ _ _ h => h, st_never fun _ _ _ _ h => h⟩
  | .con c k p => ⟨se_con c k p, st_of (se_con c k p) (fun _ => rfl) fun _ _ _ _ h => h⟩
  | .loc x i p => ⟨se_loc x i p, st_of (se_loc x i p) (fun _ => rfl) fun _ _ _ _ h => h⟩
  | .glo x k p => ⟨se_glo G x k p, st_of (se_glo G x k p) (fun _ => rfl) fun _ _ _ _ h => h⟩
  | .bin a o b p => have s := se_bin (o := o) (p := p) (se_all G F a).1 (se_all G F b).1; ⟨s, st_of s (fun _ => rfl) fun _ _ _ _ h => h⟩
  | .neg a p => have s := se_neg (p := p) (se_all G F a).1; ⟨s, st_of s (fun _ => rfl) fun _ _ _ _ h => h⟩
  | .nt a _ => ⟨se_not (se_all G F a).1, st_not (se_all G F a).2⟩
  | .ife t a b _ => ⟨se_ife (se_all G F t).2 (se_all G F a).1 (se_all G F b).1, st_ife (se_all G F t).2 (se_all G F a).2 (se_all G F b).2⟩
  | .and a b _ => ⟨se_and (se_all G F a).1 (se_all G F b).1, st_and (se_all G F a).2 (se_all G F b).2⟩
  | .or a b _ => ⟨se_or (se_all G F a).1 (se_all G F b).1, st_or (se_all G F a).2 (se_all G F b).2⟩
  | .or3 a b c _ => ⟨sv_never fun _ _ _ _ h => absurd h.1 (by decide), st_or3 (se_all G F a).2 (se_all G F b).2 (se_all G F c).2⟩
  | .cmp a _ b _ => ⟨se_cmp G (se_all G F a).1 (se_all G F b).1, st_cmp G (se_all G F a).1 (se_all G F b).1⟩
  | .cmp2 a _ b _ c _ => ⟨se_cmp2 G (se_all G F a).1 (se_all G F b).1 (se_all G F c).1, st_cmp2 G (se_all G F a).1 (se_all G F b).1 (se_all G F c).1⟩
  | .tup es k p => ⟨se_tup (ses_all G F es), st_never fun _ _ _ _ h => absurd h.1 (by decide)⟩
  | .lst es p => have s := se_lst (p := p) (ses_all G F es); ⟨s, st_of s (fun _ => rfl) fun _ _ _ _ h => h⟩
  | .dic0 p => ⟨se_dic0, st_never fun _ _ _ _ h => absurd h.1 (by decide)⟩
  | .dic1 k v pk pv p => ⟨se_dic1, st_never fun _ _ _ _ h => absurd h.1 (by decide)⟩
  | .sub a i p => have s := se_sub (p := p) (se_all G F a).1 (se_all G F i).1; ⟨s, st_of s (fun _ => rfl) fun _ _ _ _ h => h⟩
  | .slLU a l u ps p => have s := se_slLU (ps := ps) (p := p) (se_all G F a).1 (se_all G F l).1 (se_all G F u).1; ⟨s, st_of s (fun _ => rfl) fun _ _ _ _ h => h⟩
  | .slL a l ps p => have s := se_slL (ps := ps) (p := p) (se_all G F a).1 (se_all G F l).1; ⟨s, st_of s (fun _ => rfl) fun _ _ _ _ h => h⟩
  | .slU a u ps p => have s := se_slU (ps := ps) (p := p) (se_all G F a).1 (se_all G F u).1; ⟨s, st_of s (fun _ => rfl) fun _ _ _ _ h => h⟩
  | .att a k p => have s := se_att (k := k) (p := p) G (se_all G F a).1; ⟨s, st_of s (fun _ => rfl) fun _ _ _ _ h => h⟩
  | .call x f px es p => have s := se_call (x := x) (f := f) (px := px) (p := p) G F (ses_all G F es); ⟨s, st_of s (fun _ => rfl) fun _ _ _ _ h => h⟩
  | .met a k es pa p => have s := se_met (k := k) (pa := pa) (p := p) G F (se_all G F a).1 (ses_all G F es); ⟨s, st_of s (fun _ => rfl) fun _ _ _ _ h => h⟩
  | .blt x px es p => have s := se_blt (x := x) (px := px) (p := p) G (ses_all G F es); ⟨s, st_of s (fun _ => rfl) fun _ _ _ _ h => by simp only [wq24] at h ⊢; rw [finQ_false]; exact h⟩
  | .app a e pa p => ⟨se_app (se_all G F a).1 (se_all G F e).1, st_never fun _ _ _ _ h => absurd h.1 (by decide)⟩
  | .joi a e pa p => ⟨se_joi (se_all G F a).1 (se_all G F e).1, st_never fun _ _ _ _ h => absurd h.1 (by decide)⟩
  | .fnd a e pa p => ⟨se_fnd (se_all G F a).1 (se_all G F e).1, st_never fun _ _ _ _ h => absurd h.1 (by decide)⟩
  | .dget k v pk pv pd x i px j pj pa p => ⟨sv_dget G k v pk pv pd x i px j pj pa p, st_dget k v pk pv pd x i px j pj pa p⟩
  | .com elt x px it sc p => have s := se_com (x := x) (px := px) (sc := sc) (p := p) G (se_all G F it).1 (se_all G F elt).1; ⟨s, st_of s (fun _ => rfl) fun _ _ _ _ h => h⟩
  | .comc elt x px it c sc p => have s := se_comc (x := x) (px := px) (sc := sc) (p := p) G (se_all G F it).1 (se_all G F elt).1 (se_all G F c).2; ⟨s, st_of s (fun _ => rfl) fun _ _ _ _ h => h⟩
theorem ses_all (G : Gx K τ B) (F : FnOk prog τ B Φ n) : ∀ es : Es, SEs prog τ B Φ n es
  | .nil => ses_nil
  | .cons e r => ses_cons (se_all G F e).1 (ses_all G F r)
end
end
end Mine
end

noncomputable section
open PySem PySem.W PyProof.Rows PySem.Calls PySem.Spec PySem.SeqAt PySem.Builtin
set_option maxRecDepth 100000
namespace Mine

set_option tactic.hygienic true in
theorem fr_aput {P : Params} {W : Wd} {l : List (Nat × AV)} {es : List DictEntry} (r : FR P W l es) {k : Nat} (hk : k < 6) {a : AV} {v : Value} (hv : VR W a v) (t : Tok) : FR P W (aput k a l) (putL (anm k) (PyData.keyHash P (anm k)) (.str (anm k) t) v es) := by
  induction r with
  | nil => exact .cons hk hv .nil
  | cons hk' h r ih =>
    rename_i x t' u y d es
    show FR P W (if x = k then (x, a) :: d else (x, u) :: aput k a d) _
    unfold putL
    by_cases e : x = k
    · subst e
      rw [if_pos rfl, if_pos (by simp [Value.isStr])]
      exact .cons hk hv r
    · rw [if_neg e, if_neg (by
        simp only [Value.isStr, beq_iff_eq]
        exact fun q => e (anm_inj hk' hk q))]
      exact .cons hk' h ih
theorem aput_len (k : Nat) (a : AV) (d : List (Nat × AV)) : (aput k a d).length ≤ d.length + 1 := by
  induction d with
  | nil => exact Nat.le_refl _
  | cons p r ih =>
    obtain ⟨x, u⟩ := p
    show (if x = k then (x, a) :: r else (x, u) :: aput k a r).length ≤ r.length + 1 + 1
    by_cases e : x = k
    · rw [if_pos e]; exact Nat.le_succ _
    · rw [if_neg e]; exact Nat.succ_le_succ ih
theorem fr_noref {P : Params} {W : Wd} {l : List (Nat × AV)} {es : List DictEntry} (r : FR P W l es) : es.any (·.refKey) = false := by
  induction r with
  | nil => rfl
  | cons hk hv r ih => rw [List.any_cons, ih]; rfl
theorem putL_len (name : Str) (hsh : Int) (key v : Value) (es : List DictEntry) : (putL name hsh key v es).length ≤ es.length + 1 := by
  induction es with
  | nil => exact Nat.le_refl _
  | cons e r ih =>
    unfold putL
    by_cases c : e.key.isStr name = true
    · rw [if_pos c]; exact Nat.le_succ _
    · rw [if_neg c]; exact Nat.succ_le_succ ih

section
variable {prog : Program} {K : Frag} {τ : List (Addr × List Value)} {B : Bx} {Φ : Fn} {n : Nat}

theorem store_own {w : World} {A : Around} {s : Shared} {C x dx : Addr} {ox od : Obj} {name : Str} {tk : Tok} {v : Value} {es : List DictEntry} {ep : Nat} {R : Result → Shared → Prop} (X : K.In s.heap)
    (I : InstAt s.heap x ox C (some od)) (hd : ox.dict = some dx) (hp : plainOver K C = true) (ht : takerIn K C name = some none) (hh : (clsIn K C).any (·.hasDict) = true)
    (D : s.heap.get? dx = some od) (hod : od.data = .dict es.toArray ep) (hr : es.any (·.refKey) = false) (hz : es.length ≤ 1000)
    (h : ∀ h' o' n', Heap.SameBut dx s.heap h' → h'.get? dx = some o' → o'.cls = od.cls → o'.dict = od.dict → o'.data = .dict (putL name (PyData.keyHash w.params name) (.str name s.toks) v es).toArray n' → R (.ok (.ret .none)) { s with heap := h', toks := s.toks + 1 }) :
    codeAny (model prog w) A (.call (.builtin "object.__setattr__") ⟨[.ref x, .str name tk, v], []⟩) R s := by
  refine osa_open X I hp ht fun b => ?_
  obtain ⟨cd, hc, hd'⟩ := any_some hh
  obtain ⟨hx, hcl, hn, -⟩ := I
  obtain ⟨oc, odi, oda, osl⟩ := ox
  dsimp only at hcl hd
  subst hcl hd
  refine wpAny_bind (wpAny_pure (wpAny_bind (wpAny_bind (wpAny_loadPart hx (wpAny_bind ((looks_clsIn X hc).here ?_))))))
  rw [hd']
  refine wpAny_pure (a := some dx) (wpAny_bind (wpAny_pure (wpAny_bind ?_)))
  unfold nsSet
  refine wpAny_bind (wpAny_bind (wpAny_askSetting (wpAny_pure (wpAny_bind (wpAny_mkText (wpAny_bind (wpAny_loadPart D ?_)))))))
  rw [hod]
  dsimp only
  have c : (!es.toArray.any (·.key.isStr name) && es.toArray.any (·.refKey)) = false := by
    have e : (es.toArray.any fun x => x.refKey) = es.any fun x => x.refKey := by simp
    rw [e, hr, Bool.and_false]
  rw [aRefKeyMayBeTheName_at, c]
  obtain ⟨o', ho', hcl', hdi', hda'⟩ : ∃ n', Obj.putName name (PyData.keyHash w.params name) (.str name s.toks) v od = { od with data := .dict (putL name (PyData.keyHash w.params name) (.str name s.toks) v es).toArray n' } ∧ True ∧ True ∧ True := by
    obtain ⟨c0, d0, dt, sl⟩ := od
    dsimp only at hod
    subst hod
    rw [Obj.putName_eq]
    unfold Obj.putNameByArray
    have h1 := putL_find name (PyData.keyHash w.params name) (.str name s.toks) v es
    cases e : List.findIdx? (fun x => x.key.isStr name) es with
    | none => rw [e] at h1; exact ⟨ep + 1, by rw [← h1]; simp [e], trivial, trivial, trivial⟩
    | some i => rw [e] at h1; exact ⟨ep, by rw [← h1]; simp [e], trivial, trivial, trivial⟩
  have hget : (s.heap.update dx (Obj.putName name (PyData.keyHash w.params name) (.str name s.toks) v)).get? dx = some { od with data := .dict (putL name (PyData.keyHash w.params name) (.str name s.toks) v es).toArray o' } := by
    rw [← ho']
    exact Heap.get?_update_self _ D (by rw [ho']; rfl)
  refine wpAny_updatePart D ?_
  refine wpAny_bind (wpAny_lookBehind hget (pastItsLine_dict (by have := putL_len name (PyData.keyHash w.params name) (.str name s.toks) v es; rw [List.size_toArray, sizeLine_eq]; omega)) ?_)
  exact wpAny_pure (h _ _ _ (Heap.SameBut.update ..) hget rfl rfl rfl)

theorem set_att_ok {C : Cx} {A : Around} {W : Wd} {st : St} {s : Shared} {E' : Value → Shared → Prop} (G : Gx K τ B) (T : Stt B C W st s) {o a : AV} {vo v : Value} {k : Nat} (hk : k < 6) (ro : VR W o vo) (ra : VR W a v) {N : St → Prop} (h : setAttQ o k a st N)
    {Q' : Unit → Shared → Prop} (kn : ∀ st' s', Stt B C W st' s' → N st' → Q' () s') : wpAny (model prog B.w) A (setAttr vo (anm k) v) Q' E' s := by
  replace h := isO_inv h; obtain ⟨j, rfl, h⟩ := h
  replace h := atI_inv h; obtain ⟨c, l, hl, h⟩ := h
  obtain ⟨ax, rr, rfl, hj⟩ := VR.inv_o ro
  obtain ⟨r, hr, x, dx, es, rfl, hi, hn, fr, hz, hc⟩ := T.objs.at_ _ _ hl
  rw [hj] at hr; cases hr
  obtain ⟨ox, od, m, I, hd, hdx⟩ := inst_at hi hn
  obtain ⟨od', m', hdo, hdc, hdd, hdt⟩ := id hn
  have Dx : s.heap.get? dx = some od := by
    obtain ⟨hx, hcl, hn', hdict⟩ := I
    rw [hdx] at hdict
    exact hdict
  rw [Dx] at hdo; cases hdo
  obtain ⟨c1, c2, c3, c4, c5⟩ := G.k.cls c hc
  have ht : takerIn K c (anm k) = some none := by unfold takerIn; rw [G.k.natt c k hc hk]; rfl
  have X := G.X.keeps T.stays
  refine set_plain X I c4 (store_own (s := { s with toks := s.toks + 1 }) X I hdx c5 ht c3 Dx hdt (fr_noref fr) (by rw [fr.length]; exact hz) fun h' o' n' hs ho' e1 e2 e3 => ?_)
  refine kn _ _ (T.setObj (tk := s.toks + 1 + 1) hj (.tail _ (.head _)) Dx (.inr hdc) (by rw [hdt]; intro _ e; cases e) (by rw [hdt]; intro _ e; cases e) hs ?_) h.2
  refine ⟨ax, dx, _, rfl, ?_, ⟨o', n', ho', e1.trans hdc, e2.trans hdd, e3⟩, fr_aput fr hk ra _, ?_, hc⟩
  · obtain ⟨oi, hoi, q1, q2, q3⟩ := hi
    refine ⟨oi, (hs.2 ax ?_).trans hoi, q1, q2, q3⟩
    intro e
    have nd := T.nodup
    have hm : [ax, dx] ∈ W.ρ := List.mem_of_getElem? hj
    have := List.Pairwise.sublist (List.sublist_flatten_of_mem hm) nd
    rw [e] at this
    simp at this
  · have := aput_len k a l
    have := h.1
    omega

theorem set_itm_ok {C : Cx} {A : Around} {W : Wd} {st : St} {s : Shared} {E' : Value → Shared → Prop} (T : Stt B C W st s) {o i a : AV} {vo vi v : Value} (ro : VR W o vo) (ri : VR W i vi) (ra : VR W a v) {N : St → Prop} (h : setItmQ o i a st N)
    {Q' : Unit → Shared → Prop} (kn : ∀ st' s', Stt B C W st' s' → N st' → Q' () s') : wpAny (model prog B.w) A (setItem vo vi v) Q' E' s := by
  replace h := isO_inv h; obtain ⟨j, rfl, h⟩ := h
  obtain ⟨_, _, rfl, hj⟩ := VR.inv_o ro
  cases i with
  | int k =>
    replace h := atL_inv h; obtain ⟨l, hl, h⟩ := h
    obtain ⟨_, rfl⟩ := VR.inv_i ri
    obtain ⟨q, hq, x, us, rfl, xl, hvs, hz⟩ := T.objs.at_ _ _ hl
    rw [hj] at hq; cases hq
    obtain ⟨ob, ho, hc, hdn, m, hd⟩ := id xl
    have hlen : (k : Int) < us.toArray.size := by rw [List.size_toArray, hvs.length]; exact h.2.1
    refine set_list xl h.1 (by have := h.2.1; omega) hlen fun h' hl' hs' => ?_
    refine kn _ _ (T.setObj (r := [_]) (o' := .list (l.set k.toNat a)) (tk := s.toks) hj (.head _) ho (.inl hc) (by rw [hd]; intro _ e; cases e) (by rw [hd]; intro _ e; cases e) hs' ⟨_, us.set k.toNat v, rfl, by simpa using hl', hvs.set _ ra, by rw [List.length_set]; exact hz⟩) h.2.2
  | str k =>
    replace h := atD_inv h; obtain ⟨d, ep, hl, h⟩ := h
    obtain ⟨tk, rfl, hkz⟩ := VR.inv_s ri
    obtain ⟨q, hq, x, es, rfl, hda, hdr, hz, hnd⟩ := T.objs.at_ _ _ hl
    rw [hj] at hq; cases hq
    obtain ⟨kvs, hdo, kr⟩ := to_dictOf (prog := prog) hda hdr hnd
    obtain ⟨ob, ho, hx, hd⟩ := id hda
    refine wpAny_setItem_pairs (strKind_is prog B.w _ _) hdo (fun h' hdo' hs' => ?_) (by rw [kr.length, sizeLine_eq]; omega)
    obtain ⟨⟨es', n', h1, h2⟩, h3⟩ := of_dictOf hdo' (kr_dput kr hnd hkz ra)
    refine kn _ _ (T.setObj (r := [_]) (o' := .dict (dput k a d) n') (tk := s.toks + 1) hj (.head _) ho (.inr hx.1) (by rw [hd]; intro _ e; cases e) (by rw [hd]; intro _ e; cases e) hs' ⟨_, es', rfl, h1, h2, ?_, h3⟩) (h.2 n')
    have := dput_len k a d
    have := h.1
    omega
  | _ => exact h.elim
end
end Mine
end

noncomputable section
open PySem PySem.W PyProof.Rows PySem.Calls PySem.Spec PySem.SeqAt PySem.Builtin
set_option maxRecDepth 100000
namespace Mine

noncomputable def lkL (lk : LK) (i : Nat) (x : Str) : Bool := lk i == some (x, false)
set_option backward.eqns.nonrecursive false in
noncomputable def conEs : Es → Bool
  | .nil => true
  | .cons (.con (.int _) _ _) r => conEs r
  | .cons _ _ => false
set_option backward.eqns.nonrecursive false in
noncomputable def tupOk : E → Bool
  | .raw _ => false
  | .com .. => false
  | .comc .. => false
  | .tup es _ _ => conEs es
  | _ => true
set_option backward.eqns.nonrecursive false in
noncomputable def isCl : E → Bool
  | .app .. => true
  | .met .. => true
  | .call .. => true
  | _ => false
theorem isCl_inv {e : E} (h : isCl e = true) : isCom e = false ∧ ∃ f a k p, emb e = .Call f a k p := by
  cases e <;> first | exact ⟨rfl, _, _, _, _, rfl⟩ | exact nof h

set_option backward.eqns.nonrecursive false in
mutual
noncomputable def okS (lk : LK) (gl : Str → Bool) : S → Bool
  | .raw _ => true
  | .asg x i _ e _ => lkL lk i x && okE lk gl e && !isCom e
  | .asgC x i px (.com elt y py it sc p') p => lkL lk i x && okE lk gl (.com elt y py it sc p') && px.line == p'.line && !(sc.names.any fun (n, k) => n == x && (k == .local || k == .cell))
  | .asgC _ _ _ _ _ => false
  | .asg2 x i _ y j _ _ _ e _ => lkL lk i x && lkL lk j y && okE lk gl e && tupOk e
  | .asg3 x i _ y j _ z l _ _ _ e _ => lkL lk i x && lkL lk j y && lkL lk l z && okE lk gl e && tupOk e
  | .asgA x i _ o n _ _ _ e _ => lkL lk i x && okE lk gl o && okE lk gl e && decide (n < 6) && tupOk e
  | .ast o n _ e _ => okE lk gl o && okE lk gl e && decide (n < 6) && !isCom e
  | .sst o i _ e _ => okE lk gl o && okE lk gl i && okE lk gl e && !isCom e
  | .exp e _ => okE lk gl e && isCl e
  | .ite t a b _ => okE lk gl t && okSs lk gl a && okSs lk gl b
  | .whl t b _ => okE lk gl t && okSs lk gl b
  | .for1 x i _ it b _ => lkL lk i x && okE lk gl it && !isRaw it && okSs lk gl b
  | .forR x i _ _ es _ b _ => lkL lk i x && okEs lk gl es && gl "range" && okSs lk gl b
  | .for2 x i _ y j _ _ _ it b _ => lkL lk i x && lkL lk j y && okE lk gl it && !isRaw it && okSs lk gl b
  | .ret e _ => okE lk gl e
  | .rse x c _ es _ _ => gl x && gfn.lookup x == some c && okEs lk gl es && (c == 59 || c == 71) && decide (1 ≤ lenEs es) && decide (lenEs es ≤ 2)
  | .tr b x c _ (.cons h hs) _ _ => gl x && gfn.lookup x == some c && okSs lk gl b && okS lk gl h && okSs lk gl hs && (c == 59 || c == 71)
  | .tr _ _ _ _ .nil _ _ => false
  | .cont _ => true
  | .ret0 _ => true
noncomputable def okSs (lk : LK) (gl : Str → Bool) : Ss → Bool
  | .nil => true
  | .cons s r => okS lk gl s && okSs lk gl r
end
theorem or0 {lk : LK} {gl : Str → Bool} {u1} : okS lk gl (.raw u1) = (true) := rfl
theorem or1 {lk : LK} {gl : Str → Bool} {x} {i} {u1} {e} {u2} : okS lk gl (.asg x i u1 e u2) = (lkL lk i x && okE lk gl e && !isCom e) := rfl
theorem or2 {lk : LK} {gl : Str → Bool} {x} {i} {px} {elt} {y} {py} {it} {sc} {p'} {p} : okS lk gl (.asgC x i px (.com elt y py it sc p') p) = (lkL lk i x && okE lk gl (.com elt y py it sc p') && px.line == p'.line && !(sc.names.any fun (n, k) => n == x && (k == .local || k == .cell))) := rfl
theorem or4 {lk : LK} {gl : Str → Bool} {x} {i} {u1} {y} {j} {u2} {u3} {u4} {e} {u5} : okS lk gl (.asg2 x i u1 y j u2 u3 u4 e u5) = (lkL lk i x && lkL lk j y && okE lk gl e && tupOk e) := rfl
theorem or5 {lk : LK} {gl : Str → Bool} {x} {i} {u1} {y} {j} {u2} {z} {l} {u3} {u4} {u5} {e} {u6} : okS lk gl (.asg3 x i u1 y j u2 z l u3 u4 u5 e u6) = (lkL lk i x && lkL lk j y && lkL lk l z && okE lk gl e && tupOk e) := rfl
theorem or6 {lk : LK} {gl : Str → Bool} {x} {i} {u1} {o} {n} {u2} {u3} {u4} {e} {u5} : okS lk gl (.asgA x i u1 o n u2 u3 u4 e u5) = (lkL lk i x && okE lk gl o && okE lk gl e && decide (n < 6) && tupOk e) := rfl
theorem or7 {lk : LK} {gl : Str → Bool} {o} {n} {u1} {e} {u2} : okS lk gl (.ast o n u1 e u2) = (okE lk gl o && okE lk gl e && decide (n < 6) && !isCom e) := rfl
theorem or8 {lk : LK} {gl : Str → Bool} {o} {i} {u1} {e} {u2} : okS lk gl (.sst o i u1 e u2) = (okE lk gl o && okE lk gl i && okE lk gl e && !isCom e) := rfl
theorem or9 {lk : LK} {gl : Str → Bool} {e} {u1} : okS lk gl (.exp e u1) = (okE lk gl e && isCl e) := rfl
theorem or10 {lk : LK} {gl : Str → Bool} {t} {a} {b} {u1} : okS lk gl (.ite t a b u1) = (okE lk gl t && okSs lk gl a && okSs lk gl b) := rfl
theorem or11 {lk : LK} {gl : Str → Bool} {t} {b} {u1} : okS lk gl (.whl t b u1) = (okE lk gl t && okSs lk gl b) := rfl
theorem or12 {lk : LK} {gl : Str → Bool} {x} {i} {u1} {it} {b} {u2} : okS lk gl (.for1 x i u1 it b u2) = (lkL lk i x && okE lk gl it && !isRaw it && okSs lk gl b) := rfl
theorem or13 {lk : LK} {gl : Str → Bool} {x} {i} {u1} {u2} {es} {u3} {b} {u4} : okS lk gl (.forR x i u1 u2 es u3 b u4) = (lkL lk i x && okEs lk gl es && gl "range" && okSs lk gl b) := rfl
theorem or14 {lk : LK} {gl : Str → Bool} {x} {i} {u1} {y} {j} {u2} {u3} {u4} {it} {b} {u5} : okS lk gl (.for2 x i u1 y j u2 u3 u4 it b u5) = (lkL lk i x && lkL lk j y && okE lk gl it && !isRaw it && okSs lk gl b) := rfl
theorem or15 {lk : LK} {gl : Str → Bool} {e} {u1} : okS lk gl (.ret e u1) = (okE lk gl e) := rfl
theorem or16 {lk : LK} {gl : Str → Bool} {x} {c} {u1} {es} {u2} {u3} : okS lk gl (.rse x c u1 es u2 u3) = (gl x && gfn.lookup x == some c && okEs lk gl es && (c == 59 || c == 71) && decide (1 ≤ lenEs es) && decide (lenEs es ≤ 2)) := rfl
theorem or17 {lk : LK} {gl : Str → Bool} {b} {x} {c} {u1} {h} {hs} {u2} {u3} : okS lk gl (.tr b x c u1 (.cons h hs) u2 u3) = (gl x && gfn.lookup x == some c && okSs lk gl b && okS lk gl h && okSs lk gl hs && (c == 59 || c == 71)) := rfl
theorem or18 {lk : LK} {gl : Str → Bool} {u1} {u2} {u3} {u4} {u5} {u6} : okS lk gl (.tr u1 u2 u3 u4 .nil u5 u6) = (false) := rfl
theorem or19 {lk : LK} {gl : Str → Bool} {u1} : okS lk gl (.cont u1) = (true) := rfl
theorem or20 {lk : LK} {gl : Str → Bool} {u1} : okS lk gl (.ret0 u1) = (true) := rfl
theorem ors0 {lk : LK} {gl : Str → Bool}  : okSs lk gl (.nil) = (true) := rfl
theorem ors1 {lk : LK} {gl : Str → Bool} {s} {r} : okSs lk gl (.cons s r) = (okS lk gl s && okSs lk gl r) := rfl

structure KF (B : Bx) (C : Cx) (W : Wd) (N : St → Prop) (R : AV → St → Prop) (Cn : St → Prop) (Q' : Flow → Shared → Prop) : Prop where
  n : ∀ W' st' s', W.le W' → Stt B C W' st' s' → N st' → Q' .next s'
  r : ∀ W' st' s' av v, W.le W' → Stt B C W' st' s' → VR W' av v → R av st' → Q' (.ret v) s'
  c : ∀ W' st' s', W.le W' → Stt B C W' st' s' → Cn st' → Q' .cont s'
theorem KF.mono {B : Bx} {C : Cx} {W W' : Wd} {N : St → Prop} {R : AV → St → Prop} {Cn : St → Prop} {Q' : Flow → Shared → Prop} (k : KF B C W N R Cn Q') (l : W.le W') : KF B C W' N R Cn Q' :=
  ⟨fun _ _ _ l' => k.n _ _ _ (l.trans l'), fun _ _ _ _ _ l' => k.r _ _ _ _ _ (l.trans l'), fun _ _ _ l' => k.c _ _ _ (l.trans l')⟩

section
variable (prog : Program) (τ : List (Addr × List Value)) (B : Bx) (Φ : Fn) (n : Nat)
noncomputable def SSt (t : S) : Prop := ∀ (C : Cx) (lk : LK) (gl : Str → Bool) (A : Around) (W : Wd) (st : St) (s : Shared) (N : St → Prop) (R : AV → St → Prop) (Cn : St → Prop) (X : QX) (Q' : Flow → Shared → Prop) (E' : Value → Shared → Prop),
  CxOk B C lk gl → FCx C → C.ro = false → okS lk gl t = true → AOk C A n → (∀ t ∈ τ, t ∈ W.τ) → Stt B C W st s → wpS Φ C.hnd.isSome t st N R Cn X → KF B C W N R Cn Q' → KX B C W X E' → wpAny (model prog B.w) A (exec (embS t) C.env) Q' E' s
noncomputable def SSs (t : Ss) : Prop := ∀ (C : Cx) (lk : LK) (gl : Str → Bool) (A : Around) (W : Wd) (st : St) (s : Shared) (N : St → Prop) (R : AV → St → Prop) (Cn : St → Prop) (X : QX) (Q' : Flow → Shared → Prop) (E' : Value → Shared → Prop),
  CxOk B C lk gl → FCx C → C.ro = false → okSs lk gl t = true → AOk C A n → (∀ t ∈ τ, t ∈ W.τ) → Stt B C W st s → wpSs Φ C.hnd.isSome t st N R Cn X → KF B C W N R Cn Q' → KX B C W X E' → wpAny (model prog B.w) A (execs (embSs t) C.env) Q' E' s
end

section
variable {prog : Program} {K : Frag} {τ : List (Addr × List Value)} {B : Bx} {Φ : Fn} {n : Nat}

theorem store_ok {C : Cx} {lk : LK} {gl : Str → Bool} {A : Around} {W : Wd} {st : St} {s : Shared} {E' : Value → Shared → Prop} (Z : CxOk B C lk gl) (hro : C.ro = false) (T : Stt B C W st s) {x : Str} {i : Nat} (hx : lkL lk i x = true) {a : AV} {v : Value} (r : VR W a v)
    {Q : Unit → Shared → Prop} (h : ∀ h' tk, Heap.SameBut C.env.locals s.heap h' → Stt B C W (st.set i a) { s with heap := h', toks := tk } → Q () { s with heap := h', toks := tk }) : wpAny (model prog B.w) A (storeName C.env x v) Q E' s := by
  have hn : C.nm i = some x := Z.lk i x false (beq_iff_eq.mp hx)
  obtain ⟨m, hm, hl⟩ := T.loc
  exact wpAny_storeName_local (Z.nm i x hn).1 hm (fun h' hn' hs' => h h' _ hs' (T.setLoc hro hm hl hn' rfl hs' hn Z.inj Z.nc r)) (by rw [Z.kind]; rfl)

theorem swaps_ok {e : E} (h : isCom e = false) (t : Option PySem.Expr) (l : Nat) (env : Env) : swapsWith (emb e) t l env = pure false := by
  cases e <;> first | rfl | cases h

theorem ss_asg {x : Str} {i : Nat} {px : Pos} {e : E} {p : Pos} (he : SEv prog τ B Φ n e) : SSt prog τ B Φ n (.asg x i px e p) := fun C lk gl A W st s N R Cn X Q' E' Z F ro ok hA hτ T h kf kx => by
  simp only [or1, Bool.and_eq_true, Bool.not_eq_true'] at ok
  simp only [wr1] at h
  exact wpAny_Assign_Name (he C lk gl A W st s _ _ _ _ Z ok.1.2 hA hτ T h (fun W₁ st₁ s₁ av v l₁ T₁ r₁ h₁ => store_ok Z ro T₁ ok.1.1 r₁ fun h' tk hs T₂ => kf.n _ _ _ l₁ T₂ h₁) kx) (swaps_ok ok.2 _ _ _)

set_option tactic.hygienic true in
theorem ss_asgC (G : Gx K τ B) {x : Str} {i : Nat} {px : Pos} {elt : E} {y : Str} {py : Pos} {it : E} {sc : Scope} {p' p : Pos} (hi : SEv prog τ B Φ n it) (he : SEv prog τ B Φ n elt) : SSt prog τ B Φ n (.asgC x i px (.com elt y py it sc p') p) := fun C lk gl A W st s N R Cn X Q' E' Z F ro ok hA hτ T h kf kx => by
  simp only [or2, oq29, Bool.and_eq_true, Bool.not_eq_true'] at ok
  obtain ⟨⟨⟨o1, o2⟩, o3⟩, o4⟩ := ok
  simp only [wr2] at h
  simp only [wq29] at h
  have hn : C.nm i = some x := Z.lk i x false (beq_iff_eq.mp o1)
  have hsw : swapsWith (.ListComp (emb elt) [⟨.Name y py, emb it, [], 0⟩] sc p') (some (.Name x px)) p.line C.env = pure true := by
    show pure (C.env.blockKind == .function && C.env.kindOf x == some .local && px.line == p'.line && !(sc.names.any fun (n, k) => n == x && (k == .local || k == .cell))) = (pure true : Sem Bool)
    rw [o3, o4, (Z.nm i x hn).1]
    have : C.env.blockKind = .function := by unfold Env.blockKind; rw [Z.kind]; rfl
    rw [this]; rfl
  have key := com_core (prog := prog) (x := y) (px := py) (sc := sc) (p := p') G (ct := none) (use := some (assign (.Name x px) C.env)) (Q := fun v st₁ => N (st₁.set i v)) (Q' := fun _ s' => Q' .next s') hi he (fun _ e => nomatch e) Z o2.1.1.1 o2.1.1.2 (fun _ e => nomatch e) o2.1.2 o2.2 hA hτ T h (E' := E') (fun W' st' s' D Lc mc av le T' rv hq hmc hl sb hr => ?_) kx
  · show wpAny _ _ (exec (.Assign [.Name x px] (.ListComp (emb elt) [⟨.Name y py, emb it, [], 0⟩] sc p') p) C.env) _ _ _
    rw [exec_Assign_Name_used _ _ _ _ hsw, arm_evalThenUse_ListComp]
    exact wpAny_bind (wpAny_standAt (wpAny_bind (wpAny_bind (wpAny_mono key (fun _ _ z => wpAny_pure (wpAny_pure z)) fun _ _ z => z))))
  refine wpAny_assign_Name (store_ok Z ro T' o1 rv fun h' tk hs T₂ => ?_)
  refine ⟨mc, hmc.sameBut hs hl, fun h'' hs'' => ?_⟩
  exact kf.n W' _ _ le (sb W' _ _ h'' T₂ (hmc.sameBut hs hl) hr hs'') hq

theorem ss_ast (G : Gx K τ B) {o : E} {k : Nat} {pa : Pos} {e : E} {p : Pos} (ho : SEv prog τ B Φ n o) (he : SEv prog τ B Φ n e) : SSt prog τ B Φ n (.ast o k pa e p) := fun C lk gl A W st s N R Cn X Q' E' Z F ro ok hA hτ T h kf kx => by
  simp only [or7, Bool.and_eq_true, Bool.not_eq_true', decide_eq_true_eq] at ok
  obtain ⟨⟨⟨o1, o2⟩, o3⟩, o4⟩ := ok
  simp only [wr6] at h
  exact plainObj_wpAny_Assign_Attribute (he C lk gl A W st s _ _ _ _ Z o2 hA hτ T h (fun W₁ st₁ s₁ av v l₁ T₁ r₁ h₁ =>
    ho C lk gl A W₁ st₁ s₁ _ _ _ _ Z o1 hA (tle hτ l₁) T₁ h₁ (fun W₂ st₂ s₂ bv u l₂ T₂ r₂ h₂ => set_att_ok G T₂ o3 r₂ (r₁.mono l₂) h₂ fun st₃ s₃ T₃ h₃ => kf.n _ _ _ (l₁.trans l₂) T₃ h₃) (kx.mono l₁)) kx) (swaps_ok o4 _ _ _)
theorem ss_sst {o i : E} {ps : Pos} {e : E} {p : Pos} (ho : SEv prog τ B Φ n o) (hi : SEv prog τ B Φ n i) (he : SEv prog τ B Φ n e) : SSt prog τ B Φ n (.sst o i ps e p) := fun C lk gl A W st s N R Cn X Q' E' Z F ro ok hA hτ T h kf kx => by
  simp only [or8, Bool.and_eq_true, Bool.not_eq_true'] at ok
  obtain ⟨⟨⟨o1, o2⟩, o3⟩, o4⟩ := ok
  simp only [wr7] at h
  exact wpAny_Assign_Subscript (he C lk gl A W st s _ _ _ _ Z o3 hA hτ T h (fun W₁ st₁ s₁ av v l₁ T₁ r₁ h₁ =>
    ho C lk gl A W₁ st₁ s₁ _ _ _ _ Z o1 hA (tle hτ l₁) T₁ h₁ (fun W₂ st₂ s₂ bv u l₂ T₂ r₂ h₂ => hi C lk gl A W₂ st₂ s₂ _ _ _ _ Z o2 hA (tle hτ (l₁.trans l₂)) T₂ h₂ (fun W₃ st₃ s₃ cv w l₃ T₃ r₃ h₃ =>
      set_itm_ok T₃ (r₂.mono l₃) r₃ ((r₁.mono l₂).mono l₃) h₃ fun st₄ s₄ T₄ h₄ => kf.n _ _ _ ((l₁.trans l₂).trans l₃) T₄ h₄) (kx.mono (l₁.trans l₂))) (kx.mono l₁)) kx) (swaps_ok o4 _ _ _)

theorem let_go_ref {w : World} {A : Around} {E : Value → Shared → Prop} {s : Shared} {Q : Value → Shared → Prop} (h : ∀ v, Q v s) : wpAny (model prog w) A (runValue (.builtin "proto.let_go" {})) Q E s := by
  refine wpAny_runValue (codeAny_builtin entry_let_go ?_)
  show wpAny _ _ (ret .none) _ _ s
  exact wpAny_pure (h _)
theorem drop_call {w : World} {A : Around} {E : Value → Shared → Prop} {s : Shared} {Q : Flow → Shared → Prop} {f : PySem.Expr} {a : List PySem.Expr} {k : List Keyword} {q p : Pos} (v : Value) (h : Q .next s) : wpAny (model prog w) A (dropValue (.Call f a k q) p v) Q E s := by
  cases v with
  | ref _ => exact wpAny_bind (wpAny_standAt (wpAny_bind (let_go_ref fun v => wpAny_pure h)))
  | _ => exact wpAny_pure h
theorem ss_exp {e : E} {p : Pos} (he : SEv prog τ B Φ n e) : SSt prog τ B Φ n (.exp e p) := fun C lk gl A W st s N R Cn X Q' E' Z F ro ok hA hτ T h kf kx => by
  simp only [or9, Bool.and_eq_true] at ok
  simp only [wr8] at h
  show wpAny _ _ (exec (.Expr (emb e) p) C.env) _ _ _
  rw [arm_exec_Expr]
  refine wpAny_bind (wpAny_standAt ?_)
  have hi : interactive C.env = false := by unfold interactive; rw [Z.kind]; rfl
  rw [hi, swaps_ok (isCl_inv ok.2).1]
  simp only [Bool.false_eq_true, if_false]
  refine wpAny_bind (wpAny_pure ?_)
  simp only [Bool.false_eq_true, if_false]
  refine wpAny_bind (he C lk gl A W st s _ _ _ _ Z ok.1 hA hτ T h (fun W₁ st₁ s₁ av v l₁ T₁ r₁ h₁ => ?_) kx)
  have k := kf.n _ _ _ l₁ T₁ h₁
  obtain ⟨_, _, _, _, e'⟩ := (isCl_inv ok.2).2
  rw [e']
  exact drop_call _ k

theorem ss_ite {t : E} {a b : Ss} {p : Pos} (ht : SEt prog τ B Φ n t) (ha : SSs prog τ B Φ n a) (hb : SSs prog τ B Φ n b) : SSt prog τ B Φ n (.ite t a b p) := fun C lk gl A W st s N R Cn X Q' E' Z F ro ok hA hτ T h kf kx => by
  simp only [or10, Bool.and_eq_true] at ok
  simp only [wr9] at h
  exact wpAny_If (ht C lk gl A W st s _ _ _ _ Z ok.1.1 hA hτ T h (fun W₁ st₁ s₁ c l₁ T₁ h₁ => ifB_ok h₁
    (fun h₂ => ha C lk gl A W₁ st₁ s₁ _ _ _ _ _ _ Z F ro ok.1.2 hA (tle hτ l₁) T₁ h₂ (kf.mono l₁) (kx.mono l₁))
    (fun h₂ => hb C lk gl A W₁ st₁ s₁ _ _ _ _ _ _ Z F ro ok.2 hA (tle hτ l₁) T₁ h₂ (kf.mono l₁) (kx.mono l₁))) kx)
theorem ss_ret {e : E} {p : Pos} (he : SEv prog τ B Φ n e) : SSt prog τ B Φ n (.ret e p) := fun C lk gl A W st s N R Cn X Q' E' Z F ro ok hA hτ T h kf kx => by
  simp only [or15] at ok
  simp only [wr14] at h
  exact wpAny_Return_some (he C lk gl A W st s _ _ _ _ Z ok hA hτ T h (fun W₁ st₁ s₁ av v l₁ T₁ r₁ h₁ => kf.r _ _ _ _ _ l₁ T₁ r₁ h₁) kx)
theorem ss_cont {p : Pos} : SSt prog τ B Φ n (.cont p) := fun C lk gl A W st s N R Cn X Q' E' Z F ro ok hA hτ T h kf kx => by
  simp only [wr17] at h
  exact wpAny_Continue (kf.c _ _ _ (.refl W) T h)
theorem ss_ret0 {p : Pos} : SSt prog τ B Φ n (.ret0 p) := fun C lk gl A W st s N R Cn X Q' E' Z F ro ok hA hτ T h kf kx => by
  simp only [wr18] at h
  exact wpAny_Return_none (kf.r _ _ _ _ _ (.refl W) T .none h)
theorem sss_nil : SSs prog τ B Φ n .nil := fun C lk gl A W st s N R Cn X Q' E' Z F ro ok hA hτ T h kf kx => by
  simp only [wrs0, wrs1] at h
  exact wpAny_execs_nil (kf.n _ _ _ (.refl W) T h)
theorem sss_cons {t : S} {r : Ss} (ht : SSt prog τ B Φ n t) (hr : SSs prog τ B Φ n r) : SSs prog τ B Φ n (.cons t r) := fun C lk gl A W st s N R Cn X Q' E' Z F ro ok hA hτ T h kf kx => by
  simp only [ors0, ors1, Bool.and_eq_true] at ok
  simp only [wrs0, wrs1] at h
  exact wpAny_execs_cons (ht C lk gl A W st s _ _ _ _ _ _ Z F ro ok.1 hA hτ T h
    ⟨fun W₁ st₁ s₁ l₁ T₁ h₁ => hr C lk gl A W₁ st₁ s₁ _ _ _ _ _ _ Z F ro ok.2 hA (tle hτ l₁) T₁ h₁ (kf.mono l₁) (kx.mono l₁), fun _ _ _ _ _ l₁ T₁ r₁ h₁ => kf.r _ _ _ _ _ l₁ T₁ r₁ h₁, fun _ _ _ l₁ T₁ h₁ => kf.c _ _ _ l₁ T₁ h₁⟩ kx)
end
end Mine
end

noncomputable section
open PySem PySem.W PyProof.Rows PySem.Calls PySem.Spec PySem.SeqAt PySem.Builtin
set_option maxRecDepth 100000
namespace Mine

section
variable {prog : Program} {w : World} {A : Around} {E : Value → Shared → Prop} {R : Result → Shared → Prop} {s : Shared}

set_option tactic.hygienic true in
theorem while_step {test : PySem.Expr} {body : List PySem.Stmt} {env : Env}
    (h : wpAny (model prog w) A (isTrue test env (eval test env)) (fun b s₂ =>
        if b = true then wpAny (model prog w) A (execs body env) (fun f s₃ => match f with
            | .next | .cont => codeAny (model prog w) A (.whileLoop test body [] env) R s₃
            | .brk => R (.ok .next) s₃
            | .ret v => R (.ok (.ret v)) s₃) (notedBy (model prog w) A env fun e s' => R (.error e) s') s₂
        else R (.ok .next) s₂) (notedBy (model prog w) A env fun e s' => R (.error e) s') s) : codeAny (model prog w) A (.whileLoop test body [] env) R s := by
  refine codeAny_of_tree ?_
  show wpAny _ A ((whileTurn test body [] env).onRaise (fun x => do noteFrame x env; theTreesLotGoes x)) _ _ s
  refine wpAny_noted ?_
  unfold whileTurn
  refine wpAny_bind (wpAny_mono h (fun b s₂ h₂ => ?_) fun _ _ h' => h')
  cases b with
  | false =>
    exact wpAny_bind (wpAny_execs_nil (wpAny_pure h₂))
  | true =>
    refine wpAny_bind (wpAny_mono h₂ (fun f s₃ h₃ => ?_) fun _ _ h' => h')
    cases f with
    | next => exact wpAny_pure ⟨rfl, h₃⟩
    | cont => exact wpAny_pure ⟨rfl, h₃⟩
    | brk => exact wpAny_pure h₃
    | ret v => exact wpAny_pure h₃

set_option tactic.hygienic true in
theorem for_step {target : PySem.Expr} {it : Value} {body : List PySem.Stmt} {env : Env}
    (h : wpAny (model prog w) A (pyNext it) (fun r s₁ => match r with
      | none => R (.ok .next) s₁
      | some v => wpAny (model prog w) A (letOwnedTupleGo target it v) (fun _ s₁' =>
          wpAny (model prog w) A (assign target env v) (fun _ s₂ => wpAny (model prog w) A (execs body env) (fun f s₃ => match f with
            | .next | .cont => codeAny (model prog w) A (.forLoop target it body [] env) R s₃
            | .brk => R (.ok .next) s₃
            | .ret v => R (.ok (.ret v)) s₃) (notedBy (model prog w) A env fun e s' => R (.error e) s') s₂) (notedBy (model prog w) A env fun e s' => R (.error e) s') s₁') (notedBy (model prog w) A env fun e s' => R (.error e) s') s₁) (notedBy (model prog w) A env fun e s' => R (.error e) s') s) : codeAny (model prog w) A (.forLoop target it body [] env) R s := by
  refine codeAny_of_tree ?_
  show wpAny _ A ((forTurn target it body [] env).onRaise (fun x => do noteFrame x env; theTreesLotGoes x)) _ _ s
  refine wpAny_noted ?_
  unfold forTurn
  refine wpAny_bind (wpAny_standAt (wpAny_bind (wpAny_onRaise (wpAny_mono h (fun r s₁ h₁ => ?_) fun _ _ h' => wpAny_standAt h'))))
  cases r with
  | none => exact wpAny_pure ⟨rfl, codeAny_block (wpAny_execs_nil h₁)⟩
  | some v =>
    refine wpAny_bind (wpAny_mono h₁ (fun _ s₁' h₁' => ?_) fun _ _ h' => h')
    refine wpAny_bind (wpAny_mono h₁' (fun _ s₂ h₂ => wpAny_bind (wpAny_mono h₂ (fun f s₃ h₃ => ?_) fun _ _ h' => h')) fun _ _ h' => h')
    cases f with
    | next => exact wpAny_pure ⟨rfl, h₃⟩
    | cont => exact wpAny_pure ⟨rfl, h₃⟩
    | brk => exact wpAny_pure h₃
    | ret v => exact wpAny_pure h₃
end

section
variable {prog : Program} {K : Frag} {τ : List (Addr × List Value)} {B : Bx} {Φ : Fn} {n : Nat}

set_option backward.eqns.nonrecursive false in
noncomputable def loopR (prog : Program) (B : Bx) (A : Around) (C : Cx) (Q' : Flow → Shared → Prop) (E' : Value → Shared → Prop) (r : Result) (s' : Shared) : Prop := match r with
  | .ok f => Q' f s'
  | .error e => cameBackBy (model prog B.w) A C.env E' e s'

theorem kx_noted {C : Cx} {lk : LK} {gl : Str → Bool} {A : Around} {W : Wd} {X : QX} {Q' : Flow → Shared → Prop} {E' : Value → Shared → Prop} (Z : CxOk B C lk gl) (F : FCx C) (hA : AOk C A n) (kx : KX B C W X E') :
    KX B C W X (notedBy (model prog B.w) A C.env fun e s' => loopR prog B A C Q' E' (.error e) s') := fun W' st' s' c e l T' x hx => passes Z F hA.frames T' x fun s'' T'' x'' => kx _ _ _ _ _ l T'' x'' hx

theorem ss_whl {t : E} {b : Ss} {p : Pos} (ht : SEt prog τ B Φ n t) (hb : SSs prog τ B Φ n b) : SSt prog τ B Φ n (.whl t b p) := fun C lk gl A W st s N R Cn X Q' E' Z F ro ok hA hτ T h kf kx => by
  simp only [or11, Bool.and_eq_true] at ok
  simp only [wr10] at h
  refine wpAny_While (codeAny_mono (R := loopR prog B A C Q' E') ?_ fun r s' h' => ?_)
  · refine h (fun st => ∀ W₁ s, W.le W₁ → Stt B C W₁ st s → codeAny (model prog B.w) A (.whileLoop (emb t) (embSs b) [] C.env) (loopR prog B A C Q' E') s) (fun st' h' W₁ s₁ l₁ T₁ => ?_) W s (.refl W) T
    refine while_step (ht C lk gl A W₁ st' s₁ _ _ _ _ Z ok.1 hA (tle hτ l₁) T₁ h' (fun W₂ st₂ s₂ c l₂ T₂ h₂ => ifB_ok h₂ (fun h₃ => ?_) fun h₃ => kf.n _ _ _ (l₁.trans l₂) T₂ h₃) (kx_noted Z F hA (kx.mono l₁)))
    refine hb C lk gl A W₂ st₂ s₂ _ _ _ _ _ _ Z F ro ok.2 hA (tle hτ (l₁.trans l₂)) T₂ h₃ ⟨fun W₃ st₃ s₃ l₃ T₃ h₄ => h₄ W₃ s₃ ((l₁.trans l₂).trans l₃) T₃, fun W₃ st₃ s₃ av v l₃ T₃ r₃ h₄ => kf.r _ _ _ _ _ ((l₁.trans l₂).trans l₃) T₃ r₃ h₄, fun W₃ st₃ s₃ l₃ T₃ h₄ => h₄ W₃ s₃ ((l₁.trans l₂).trans l₃) T₃⟩ (kx_noted Z F hA (kx.mono (l₁.trans l₂)))
  · exact h'

noncomputable def ForB (prog : Program) (τ : List (Addr × List Value)) (B : Bx) (n : Nat) (target : PySem.Expr) (body : List PySem.Stmt) (okb : LK → (Str → Bool) → Bool) (F' : Bool → AV → St → (St → Prop) → (AV → St → Prop) → QX → Prop) : Prop :=
  ∀ (C : Cx) (lk : LK) (gl : Str → Bool) (A : Around) (W : Wd) (st : St) (s : Shared) (av : AV) (v : Value) (N : St → Prop) (R : AV → St → Prop) (X : QX) (Q' : Flow → Shared → Prop) (E' : Value → Shared → Prop),
    CxOk B C lk gl → FCx C → C.ro = false → okb lk gl = true → AOk C A n → C.hnd = none → (∀ t ∈ τ, t ∈ W.τ) → Stt B C W st s → VR W av v → F' C.hnd.isSome av st N R X → KF B C W N R N Q' → KX B C W X E' →
    wpAny (model prog B.w) A (assign target C.env v) (fun _ s₂ => wpAny (model prog B.w) A (execs body C.env) Q' E' s₂) E' s

set_option tactic.hygienic true in
theorem for_loop {target : PySem.Expr} {body : List PySem.Stmt} {okb : LK → (Str → Bool) → Bool} {F' : Bool → AV → St → (St → Prop) → (AV → St → Prop) → QX → Prop} (hF : ForB prog τ B n target body okb F')
    {C : Cx} {lk : LK} {gl : Str → Bool} {A : Around} {W₀ : Wd} {I : Addr} {items : List AV} {chk : Hp → Prop} {Ob : Nat → Obj → Prop} {N : St → Prop} {R : AV → St → Prop} {X : QX} {Q' : Flow → Shared → Prop} {E' : Value → Shared → Prop}
    (Z : CxOk B C lk gl) (F : FCx C) (ro : C.ro = false) (ok : okb lk gl = true) (hA : AOk C A n) (hh : C.hnd = none) (hτ : ∀ t ∈ τ, t ∈ W₀.τ) (XT : Turns prog B C.hnd I items chk W₀ Ob) (hI : ∀ q ∈ C.outs, q.1 ≠ I)
    (kn : ∀ W' st' s', W₀.le W' → Stt B C W' st' s' → N st' → Q' .next s') (kr : ∀ W' st' s' av v, W₀.le W' → Stt B C W' st' s' → VR W' av v → R av st' → Q' (.ret v) s') (kx : KX B C W₀ X E') :
    ∀ (r : List AV) (i : Nat) (W : Wd) (st : St) (s : Shared) (o : Obj), items.drop i = r → W₀.le W → Stt B (C.out (I, o)) W st s → Ob i o → chk st.hp → forQ (fun v st₂ K => F' C.hnd.isSome v st₂ K R X) chk N r st →
      codeAny (model prog B.w) A (.forLoop target (.ref I) body [] C.env) (loopR prog B A C Q' E') s := by
  intro r
  induction r with
  | nil =>
    intro i W st s o hr le T hO hck h
    have hend : items[i]? = none := by
      rw [List.getElem?_eq_none_iff]
      have := congrArg List.length hr
      simp at this
      omega
    refine for_step (XT.next C A W _ s i o _ _ rfl hA.handled le hI T hO hck (fun av o' v s' e => ?_) fun _ s' T' => ?_)
    · rw [hend] at e; cases e
    · exact kn _ _ _ le T' h
  | cons v r ih =>
    intro i W st s o hr le T hO hck h
    have hhere : items[i]? = some v := by
      have e : (items.drop i)[0]? = some v := by rw [hr]; rfl
      rw [List.getElem?_drop] at e
      simpa using e
    have hr' : items.drop (i + 1) = r := by
      have e : (items.drop i).drop 1 = r := by rw [hr]; rfl
      rw [List.drop_drop] at e
      exact e
    refine for_step (XT.next C A W _ s i o _ _ rfl hA.handled le hI T hO hck (fun av o' u s₁ e hO' T₁ ru => ?_) fun e => ?_)
    · rw [hhere] at e; cases e
      obtain ⟨nm, hcls, hnm⟩ := XT.cls _ _ hO'
      refine wp_owned target u T₁.outAt hcls hnm ?_
      obtain ⟨fs, hfs⟩ := XT.data _ _ hO'
      have Z' : CxOk B (C.out (I, o')) lk gl := Z.out (fun es n e => by rw [hfs] at e; cases e)
      have F'' : FCx (C.out (I, o')) := ⟨F.head, F.frame⟩
      rw [forQ_cons] at h
      refine hF (C.out (I, o')) lk gl A W st s₁ v u _ R X _ _ Z' F'' ro ok (hA.out _) hh (tle hτ le) T₁ ru h ⟨fun W₂ st₂ s₂ l₂ T₂ h₂ => ?_, fun W₂ st₂ s₂ av w l₂ T₂ r₂ h₂ => ?_, fun W₂ st₂ s₂ l₂ T₂ h₂ => ?_⟩ ?_
      · exact ih (i + 1) W₂ st₂ s₂ o' hr' (le.trans l₂) T₂ hO' h₂.1 h₂.2
      · exact kr _ _ _ _ _ (le.trans l₂) T₂.drop r₂ h₂
      · exact ih (i + 1) W₂ st₂ s₂ o' hr' (le.trans l₂) T₂ hO' h₂.1 h₂.2
      · intro W' st' s' c e l T' x hx
        exact passes (A₁ := A) Z F hA.frames T'.drop x.drop fun s'' T'' x'' => kx _ _ _ _ _ (le.trans l) T'' x'' hx
    · rw [hhere] at e; cases e

theorem for1_body {x : Str} {i : Nat} {px : Pos} {b : Ss} (hb : SSs prog τ B Φ n b) : ForB prog τ B n (.Name x px) (embSs b) (fun lk gl => lkL lk i x && okSs lk gl b) (fun hd v st₂ K R X => wpSs Φ hd b (st₂.set i v) K R K X) :=
  fun C lk gl A W st s av v N R X Q' E' Z F ro ok hA hh hτ T rv h kf kx => by
    simp only [Bool.and_eq_true] at ok
    refine wpAny_assign_Name (store_ok Z ro T ok.1 rv fun h' tk hs T₂ => ?_)
    exact hb C lk gl A W _ _ _ _ _ _ _ _ Z F ro ok.2 hA hτ T₂ h kf kx

theorem ss_for1 (G : Gx K τ B) {x : Str} {i : Nat} {px : Pos} {it : E} {b : Ss} {p : Pos} (hi : SEv prog τ B Φ n it) (hb : SSs prog τ B Φ n b) : SSt prog τ B Φ n (.for1 x i px it b p) := fun C lk gl A W st s N R Cn X Q' E' Z F ro ok hA hτ T h kf kx => by
  simp only [or12, Bool.and_eq_true, Bool.not_eq_true'] at ok
  obtain ⟨⟨⟨o1, o2⟩, o3⟩, o4⟩ := ok
  simp only [wr11] at h
  obtain ⟨h0, h⟩ := h
  have hh : C.hnd = none := (hnd_none hA h0).1
  refine wpAny_For (hi C lk gl A W st s _ _ _ _ Z o2 hA hτ T h (fun W₁ st₁ s₁ av v l₁ T₁ r₁ h₁ => ?_) kx) (fun y => folded_ok o3 _ _)
  refine iter_ok G hA T₁ r₁ h₁ fun I o Ob items chk h' XT hOb T₂ hIq hck h₂ hz => ?_
  exact for_loop (for1_body hb) Z F ro (by simp [o1, o4]) hA hh (tle hτ l₁) XT hIq (fun _ _ _ l => kf.n _ _ _ (l₁.trans l)) (fun _ _ _ _ _ l => kf.r _ _ _ _ _ (l₁.trans l)) (kx.mono l₁) items 0 W₁ st₁ _ o rfl (.refl _) T₂ hOb hck h₂
end
end Mine
end

noncomputable section
open PySem PySem.W PyProof.Rows PySem.Calls PySem.Spec PySem.SeqAt PySem.Builtin
set_option maxRecDepth 100000
namespace Mine

set_option tactic.hygienic true in
theorem con_folded {es : Es} (h : conEs es = true) : (embs es).all (foldedForSure 8) = true := by
  induction es using Es.rec (motive_1 := fun _ => True) <;> first | trivial | rfl | skip
  rename_i e r _ ih
  cases e with
  | con c k p =>
    cases c with
    | int i => exact ih h
    | _ => exact nof h
  | _ => exact nof h
set_option tactic.hygienic true in
theorem swapped_ok {e : E} (h : tupOk e = true) (ts : List PySem.Expr) (k : Nat) (pt : Pos) (env : Env) : swappedStores [.Tuple ts k pt] (emb e) env = pure none := by
  cases e
  case tup es k' p' =>
    have hf := con_folded (es := es) h
    show swappedStores [.Tuple ts k pt] (.Tuple (embs es) k' p') env = pure none
    unfold swappedStores
    dsimp only
    rw [hf]
    repeat (first | rfl | (split <;> try rfl))
  all_goals first | rfl | cases h

section
variable {prog : Program} {w : World} {A : Around} {E : Value → Shared → Prop} {s : Shared}
theorem tup_end {it t : Addr} {i : Nat} {items} {hnd : Option Addr} {Q : Option Value → Shared → Prop} (hA : A.handled = hnd.map Value.ref) (hh : HndAt s.heap hnd) (hit : IsTupIter s.heap it t i) (ht : IsTup s.heap t items) (hx : items[i]? = none) (hne : hnd ≠ some it)
    (hQ : ∀ h', Heap.ExtBut it s.heap h' → Q none { s with heap := h' }) : wpAny (model prog w) A (pyNext (.ref it)) Q E s := by
  obtain ⟨o, ho, hc, hd⟩ := id hit
  obtain ⟨ol, hol, _, nl, hdl⟩ := ht
  unfold pyNext
  refine wpAny_bind (wpAny_attempt (wpAny_callSpecial?_slot (name := Str.ofString "__next__") hit.typeIs slot_tupleiter_next
    (wpAny_call_entry slot_tupleiter_next hit.typeIs entry_tupleiter_next ?_ (args_tupleiter_next _))))
  show wpAny _ _ (field (.ref it) 0 >>= _) _ _ s
  refine wpAny_bind (wpAny_field ho hd (x := .ref t) rfl ?_)
  show wpAny _ _ (if (Value.ref t == Value.none) = true then _ else _) _ _ s
  rw [if_neg (show ¬ ((Value.ref t == Value.none) = true) from Bool.false_ne_true)]
  show wpAny _ _ (field (.ref it) 1 >>= _) _ _ s
  refine wpAny_bind (wpAny_field ho hd (x := .int i 0) rfl ?_)
  show wpAny _ _ (seqItems? (.ref t) >>= _) _ _ s
  refine wpAny_bind (wpAny_seqItems hol hdl ?_)
  simp only [Int.toNat_natCast, hx]
  refine wpAny_bind (wpAny_rule (wpAny_bind (wpAny_setField ho hd (by simp) ?_)))
  refine raise_stop (hnd := hnd) hA (hh.sb hne (Heap.SameBut.update ..)) fun h' e k ty => ?_
  refine wpAny_bind (wpAny_isInstance (T := "StopIteration") (b := true) ty isSubtype_stop ?_)
  exact wpAny_pure (hQ _ (fun b o hb e => k b o ((Heap.SameBut.update ..).extBut b o hb e)))
theorem unpackItems_tup {t : Addr} {items : Array Value} {hnd : Option Addr} {Q : List Value → Shared → Prop} (hA : A.handled = hnd.map Value.ref) (hh : HndAt s.heap hnd) (ht : IsTup s.heap t items)
    (hQ : ∀ h', Heap.ExtBut s.heap.objs.size s.heap h' → Q items.toList { s with heap := h' }) : wpAny (model prog w) A (unpackItems (.ref t) items.size none) Q E s := by
  have hlt : t ≠ s.heap.objs.size := by obtain ⟨o, ho, _⟩ := ht; exact Nat.ne_of_lt (Heap.lt_size ho)
  have hne : hnd ≠ some s.heap.objs.size := by
    rintro rfl
    obtain ⟨o, _, q, _⟩ := hh
    exact Nat.lt_irrefl _ (Heap.lt_size q)
  unfold unpackItems
  refine wpAny_bind ?_
  · unfold notIterableAtAll
    refine wpAny_bind (wpAny_specialOf ht.typeIs slot_tuple_iter.lookup ?_)
    refine wpAny_pure ?_
    simp only [Bool.false_eq_true, if_false]
    refine wpAny_bind (wpAny_holding (iter_tuple ht ?_))
    refine wpAny_bind (wpAny_holding (draw_tuple hlt items.size 0 _ _ ⟨_, Heap.get?_push_size _ rfl, rfl, rfl⟩ (ht.push _) (by omega) fun h₁ hit₁ hs₁ => ?_))
    have hall : List.take items.size (List.drop 0 items.toList) = items.toList := by
      rw [List.drop_zero]; exact List.take_of_length_le (by simp)
    rw [hall]
    rw [if_neg (by simp)]
    have ht₁ : IsTup h₁ t items := (ht.push _).extBut hs₁.extBut hlt
    refine wpAny_bind (wpAny_holding (tup_end hA ((hh.keeps fun b o e => Heap.get?_push_of_some _ e).sb hne hs₁) hit₁ ht₁ (by simp) hne fun h₂ he₂ => ?_))
    simp only [Option.isSome_none, Bool.false_eq_true, if_false]
    refine wpAny_pure (hQ h₂ fun b o hb e => he₂ b o hb (hs₁.extBut b o hb (Heap.get?_push_of_some _ e)))
theorem assign_tup {env : Env} {elts : List PySem.Expr} {x1} {pos : Pos} {t : Addr} {items : Array Value} {hnd : Option Addr} {Q : Unit → Shared → Prop} (hA : A.handled = hnd.map Value.ref) (hh : HndAt s.heap hnd) (ht : IsTup s.heap t items)
    (hn : (assignEach elts env).length = items.size) (hstar : (assignEach elts env).findIdx? (·.1) = none)
    (h : ∀ h', Heap.ExtBut s.heap.objs.size s.heap h' → wpAny (model prog w) A (assignInOrder ((assignEach elts env).map (·.2)) items.toList) Q E { s with heap := h' }) :
    wpAny (model prog w) A (assign (.Tuple elts x1 pos) env (.ref t)) Q E s := by
  rw [assign_Tuple]
  refine wpAny_bind (wpAny_standAt ?_)
  unfold unpack
  rw [hn, hstar]
  exact wpAny_bind (wpAny_holding (unpackItems_tup hA hh ht h))
end

section
variable {prog : Program} {K : Frag} {τ : List (Addr × List Value)} {B : Bx} {Φ : Fn} {n : Nat}

theorem ext_all {h h' : Heap} (x : Heap.ExtBut h.objs.size h h') : ∀ b o, h.get? b = some o → h'.get? b = some o := fun b o e => x b o (Nat.ne_of_lt (Heap.lt_size e)) e

theorem vr_tup {W : Wd} {l : List AV} {v : Value} (r : VR W (.tup l) v) : ∃ a vs, v = .ref a ∧ (a, vs) ∈ W.τ ∧ VRs W l vs := by
  obtain ⟨_, _, rfl, h, q, _⟩ := VR.inv_t r
  exact ⟨_, _, rfl, h, q⟩

theorem asn2 {C : Cx} {lk : LK} {gl : Str → Bool} {A : Around} {W : Wd} {st : St} {s : Shared} {E' : Value → Shared → Prop} (Z : CxOk B C lk gl) (hro : C.ro = false) (hh : A.handled = C.hnd.map Value.ref) (T : Stt B C W st s) {x y : Str} {i j k : Nat} {px py pt : Pos} (hx : lkL lk i x = true) (hy : lkL lk j y = true)
    {a b : AV} {v : Value} (r : VR W (.tup [a, b]) v) {Q : Unit → Shared → Prop} (h : ∀ s', Stt B C W ((st.set i a).set j b) s' → Q () s') : wpAny (model prog B.w) A (assign (.Tuple [.Name x px, .Name y py] k pt) C.env v) Q E' s := by
  obtain ⟨t, vs, rfl, ht, rv⟩ := vr_tup r
  replace rv := VRs.inv_cons rv; obtain ⟨_, _, rfl, ra, rv⟩ := rv
  · replace rv := VRs.inv_cons rv; obtain ⟨_, _, rfl, rb, rv⟩ := rv
    · obtain rfl := VRs.inv_nil rv
      refine assign_tup hh T.hnd (T.tups _ ht) rfl rfl fun h' he => ?_
      have T' : Stt B C W st { s with heap := h' } := T.ext (tk := s.toks) (ext_all he)
      refine wpAny_bind (wpAny_holding (wpAny_assign_Name (store_ok Z hro T' hx ra fun h'' tk hs T₂ => ?_)))
      refine wpAny_bind (wpAny_holding (wpAny_assign_Name (store_ok Z hro T₂ hy rb fun h'' tk hs T₃ => ?_)))
      exact wpAny_pure (h _ T₃)
theorem asn3 {C : Cx} {lk : LK} {gl : Str → Bool} {A : Around} {W : Wd} {st : St} {s : Shared} {E' : Value → Shared → Prop} (Z : CxOk B C lk gl) (hro : C.ro = false) (hh : A.handled = none) (T : Stt B C W st s) {x y z : Str} {i j l k : Nat} {px py pz pt : Pos} (hx : lkL lk i x = true) (hy : lkL lk j y = true) (hz : lkL lk l z = true)
    {a b c : AV} {v : Value} (r : VR W (.tup [a, b, c]) v) {Q : Unit → Shared → Prop} (h : ∀ s', Stt B C W (((st.set i a).set j b).set l c) s' → Q () s') : wpAny (model prog B.w) A (assign (.Tuple [.Name x px, .Name y py, .Name z pz] k pt) C.env v) Q E' s := by
  obtain ⟨t, vs, rfl, ht, rv⟩ := vr_tup r
  replace rv := VRs.inv_cons rv; obtain ⟨_, _, rfl, ra, rv⟩ := rv
  · replace rv := VRs.inv_cons rv; obtain ⟨_, _, rfl, rb, rv⟩ := rv
    · replace rv := VRs.inv_cons rv; obtain ⟨_, _, rfl, rc, rv⟩ := rv
      · obtain rfl := VRs.inv_nil rv
        refine assign_Tuple_tuple hh (T.tups _ ht) rfl rfl fun h' he => ?_
        have T' : Stt B C W st { s with heap := h' } := T.ext (tk := s.toks) (ext_all he)
        refine wpAny_bind (wpAny_holding (wpAny_assign_Name (store_ok Z hro T' hx ra fun h'' tk hs T₂ => ?_)))
        refine wpAny_bind (wpAny_holding (wpAny_assign_Name (store_ok Z hro T₂ hy rb fun h'' tk hs T₃ => ?_)))
        refine wpAny_bind (wpAny_holding (wpAny_assign_Name (store_ok Z hro T₃ hz rc fun h'' tk hs T₄ => ?_)))
        exact wpAny_pure (h _ T₄)

theorem swaps2 {e : E} (h : tupOk e = true) (t : PySem.Expr) (l : Nat) (env : Env) : swapsWithSole [t] (emb e) l env = pure false := by
  cases e <;> first | rfl | cases h

theorem unp2_ok {v : AV} {P : AV → AV → Prop} (h : unp2 v P) : ∃ a b, v = .tup [a, b] ∧ P a b := by
  replace h := isT_inv h; obtain ⟨l, rfl, h⟩ := h
  rcases l with _ | ⟨a, _ | ⟨b, _ | ⟨c, l⟩⟩⟩ <;> first | exact ⟨_, _, rfl, h⟩ | exact h.elim
theorem unp3_ok {v : AV} {P : AV → AV → AV → Prop} (h : unp3 v P) : ∃ a b c, v = .tup [a, b, c] ∧ P a b c := by
  replace h := isT_inv h; obtain ⟨l, rfl, h⟩ := h
  rcases l with _ | ⟨a, _ | ⟨b, _ | ⟨c, _ | ⟨d, l⟩⟩⟩⟩ <;> first | exact ⟨_, _, _, rfl, h⟩ | exact h.elim

theorem ss_asg2 {x y : Str} {i j k : Nat} {px py pt : Pos} {e : E} {p : Pos} (he : SEv prog τ B Φ n e) : SSt prog τ B Φ n (.asg2 x i px y j py k pt e p) := fun C lk gl A W st s N R Cn X Q' E' Z F ro ok hA hτ T h kf kx => by
  simp only [or4, Bool.and_eq_true] at ok
  obtain ⟨⟨⟨o1, o2⟩, o3⟩, o4⟩ := ok
  simp only [wr3] at h
  refine Assign_Tuple (he C lk gl A W st s _ _ _ _ Z o3 hA hτ T h (fun W₁ st₁ s₁ av v l₁ T₁ r₁ h₁ => ?_) kx) (swaps2 o4 _ _ _) (swapped_ok o4 _ _ _ _)
  obtain ⟨a, b, rfl, h₁⟩ := unp2_ok h₁
  exact asn2 Z ro hA.handled T₁ o1 o2 r₁ fun s' T' => kf.n _ _ _ l₁ T' h₁
theorem ss_asg3 {x y z : Str} {i j l k : Nat} {px py pz pt : Pos} {e : E} {p : Pos} (he : SEv prog τ B Φ n e) : SSt prog τ B Φ n (.asg3 x i px y j py z l pz k pt e p) := fun C lk gl A W st s N R Cn X Q' E' Z F ro ok hA hτ T h kf kx => by
  simp only [or5, Bool.and_eq_true] at ok
  obtain ⟨⟨⟨⟨o1, o2⟩, o3⟩, o4⟩, o5⟩ := ok
  simp only [wr4] at h
  obtain ⟨h0, h⟩ := h
  refine Assign_Tuple (he C lk gl A W st s _ _ _ _ Z o4 hA hτ T h (fun W₁ st₁ s₁ av v l₁ T₁ r₁ h₁ => ?_) kx) (swaps2 o5 _ _ _) (swapped_ok o5 _ _ _ _)
  obtain ⟨a, b, c, rfl, h₁⟩ := unp3_ok h₁
  exact asn3 Z ro (hnd_none hA h0).2 T₁ o1 o2 o3 r₁ fun s' T' => kf.n _ _ _ l₁ T' h₁
theorem ss_asgA (G : Gx K τ B) {x : Str} {i : Nat} {px : Pos} {o : E} {k m : Nat} {pa pt : Pos} {e : E} {p : Pos} (ho : SEv prog τ B Φ n o) (he : SEv prog τ B Φ n e) : SSt prog τ B Φ n (.asgA x i px o k pa m pt e p) := fun C lk gl A W st s N R Cn X Q' E' Z F ro ok hA hτ T h kf kx => by
  simp only [or6, Bool.and_eq_true, decide_eq_true_eq] at ok
  obtain ⟨⟨⟨⟨o1, o2⟩, o3⟩, o4⟩, o5⟩ := ok
  simp only [wr5] at h
  obtain ⟨h0, h⟩ := h
  refine Assign_Tuple (he C lk gl A W st s _ _ _ _ Z o3 hA hτ T h (fun W₁ st₁ s₁ av v l₁ T₁ r₁ h₁ => ?_) kx) (swaps2 o5 _ _ _) (swapped_ok o5 _ _ _ _)
  obtain ⟨a, b, rfl, h₁⟩ := unp2_ok h₁
  obtain ⟨t, vs, rfl, ht, rv⟩ := vr_tup r₁
  replace rv := VRs.inv_cons rv; obtain ⟨_, _, rfl, ra, rv⟩ := rv
  · replace rv := VRs.inv_cons rv; obtain ⟨_, _, rfl, rb, rv⟩ := rv
    · obtain rfl := VRs.inv_nil rv
      refine assign_Tuple_tuple (hnd_none hA h0).2 (T₁.tups _ ht) rfl rfl fun h' he => ?_
      have T' : Stt B C W₁ st₁ { s₁ with heap := h' } := T₁.ext (tk := s₁.toks) (ext_all he)
      refine wpAny_bind (wpAny_holding (wpAny_assign_Name (store_ok Z ro T' o1 ra fun h'' tk hs T₂ => ?_)))
      refine wpAny_bind (wpAny_holding ?_)
      show wpAny _ _ (assign (.Attribute (emb o) (anm k) pa) C.env _) _ _ _
      rw [PySem.assign_Attribute]
      refine wpAny_bind (wpAny_holding (ho C lk gl A W₁ _ _ _ _ _ _ Z o2 hA (tle hτ l₁) T₂ h₁ (fun W₃ st₃ s₃ ov u l₃ T₃ r₃ h₃ => ?_) (kx.mono l₁)))
      refine wpAny_bind (wpAny_standAt (wpAny_bind (wpAny_holding (set_att_ok G T₃ o4 r₃ (rb.mono l₃) h₃ fun st₄ s₄ T₄ h₄ => ?_))))
      exact wpAny_release (wpAny_pure (kf.n _ _ _ (l₁.trans l₃) T₄ h₄))

theorem for2_body {x y : Str} {i j k : Nat} {px py pt : Pos} {b : Ss} (hb : SSs prog τ B Φ n b) : ForB prog τ B n (.Tuple [.Name x px, .Name y py] k pt) (embSs b) (fun lk gl => lkL lk i x && lkL lk j y && okSs lk gl b) (fun hd v st₂ K R X => unp2 v fun x y => wpSs Φ hd b ((st₂.set i x).set j y) K R K X) :=
  fun C lk gl A W st s av v N R X Q' E' Z F ro ok hA hh hτ T rv h kf kx => by
    simp only [Bool.and_eq_true] at ok
    obtain ⟨a, c, rfl, h⟩ := unp2_ok h
    refine asn2 Z ro hA.handled T ok.1.1 ok.1.2 rv fun s' T' => ?_
    exact hb C lk gl A W _ _ _ _ _ _ _ _ Z F ro ok.2 hA hτ T' h kf kx
theorem ss_for2 (G : Gx K τ B) {x y : Str} {i j k : Nat} {px py pt : Pos} {it : E} {b : Ss} {p : Pos} (hi : SEv prog τ B Φ n it) (hb : SSs prog τ B Φ n b) : SSt prog τ B Φ n (.for2 x i px y j py k pt it b p) := fun C lk gl A W st s N R Cn X Q' E' Z F ro ok hA hτ T h kf kx => by
  simp only [or14, Bool.and_eq_true, Bool.not_eq_true'] at ok
  obtain ⟨⟨⟨⟨o1, o2⟩, o3⟩, o4⟩, o5⟩ := ok
  simp only [wr13] at h
  obtain ⟨h0, h⟩ := h
  have hh : C.hnd = none := (hnd_none hA h0).1
  refine wpAny_For (hi C lk gl A W st s _ _ _ _ Z o3 hA hτ T h (fun W₁ st₁ s₁ av v l₁ T₁ r₁ h₁ => ?_) kx) (fun y => folded_ok o4 _ _)
  refine iter_ok G hA T₁ r₁ h₁ fun I o Ob items chk h' XT hOb T₂ hIq hck h₂ hz => ?_
  exact for_loop (for2_body hb) Z F ro (by simp [o1, o2, o5]) hA hh (tle hτ l₁) XT hIq (fun _ _ _ l => kf.n _ _ _ (l₁.trans l)) (fun _ _ _ _ _ l => kf.r _ _ _ _ _ (l₁.trans l)) (kx.mono l₁) items 0 W₁ st₁ _ o rfl (.refl _) T₂ hOb hck h₂
end
end Mine
end

noncomputable section
open PySem PySem.W PyProof.Rows PySem.Calls PySem.Spec PySem.SeqAt PySem.Builtin
set_option maxRecDepth 100000
namespace Mine

section
variable {prog : Program} {K : Frag} {τ : List (Addr × List Value)} {B : Bx} {Φ : Fn} {n : Nat}

theorem rsize (a b : Int) : Builtin.Range.rangeSize a b 1 = ((b - a).toNat : Int) := by
  rw [rangeSize_one]
  by_cases c : a < b
  · rw [if_pos c]; omega
  · rw [if_neg c]; omega
theorem turns_cast {hnd : Option Addr} {I : Addr} {l : List AV} {chk : Hp → Prop} {W : Wd} {Ob : Nat → Obj → Prop} (e : hnd = none) (X : Turns prog B none I l chk W Ob) : Turns prog B hnd I l chk W Ob := by subst e; exact X
theorem boot_range : bootBuiltins "range" = some (.type "range") := by rfl

theorem range_iter {C : Cx} {A : Around} {W : Wd} {st : St} {s : Shared} {E : Value → Shared → Prop} (hh : C.hnd = none) (T : Stt B C W st s) {vs : List AV} {us : List Value} (r : VRs W vs us) {P : List AV → Prop} (h : rangeQ vs P) {Q : Value → Shared → Prop}
    (k : ∀ I o Ob l s', Turns prog B C.hnd I l (fun _ => True) W Ob → Ob 0 o → Stt B (C.out (I, o)) W st s' → (∀ q ∈ C.outs, q.1 ≠ I) → P l → Q (.ref I) s') :
    wpAny (model prog B.w) A (call (.type "range") us) (fun v s' => wpAny (model prog B.w) A (pyIter v) Q E s') E s := by
  have go : ∀ {a b : Int} {t u v : Tok} {tk : Nat}, -1000 ≤ a → a ≤ 1000 → -1000 ≤ b → b ≤ 1000 → P (rangeL a (b - a).toNat) →
      wpAny (model prog B.w) A (pyIter (.ref s.heap.objs.size)) Q E { s with heap := s.heap.push { cls := .type "range", data := .fields #[.int a t, .int b u, .int 1 v] }, toks := tk } := by
    intro a b t u v tk h1 h2 h3 h4 hp
    have T₁ : Stt B C W st { s with heap := s.heap.push { cls := .type "range", data := .fields #[.int a t, .int b u, .int 1 v] }, toks := tk } := T.push _
    obtain ⟨T', x1, x2, x3⟩ := T₁.top { cls := .type "range_iterator", data := .fields #[rawInt a, rawInt (Builtin.Range.rangeSize a b 1), rawInt 1] } rfl
    have X := turns_range (prog := prog) (B := B) (lo := a) (n := (b - a).toNat) (W₀ := W) x1
    refine wpAny_pyIter_range (IsRange.new ..) (small_one (by omega) (by omega) (by omega) (by omega)) (k _ _ _ _ _ (turns_cast hh X) ⟨by omega, ?_⟩ T' x3 hp)
    rw [rsize]; simp
  cases vs with
  | nil => exact h.elim
  | cons a l =>
    replace h := isI_inv h; obtain ⟨x, rfl, h⟩ := h
    replace r := VRs.inv_cons r; obtain ⟨_, _, rfl, r1, r2⟩ := r
    obtain ⟨_, rfl⟩ := VR.inv_i r1
    cases l with
    | nil =>
      obtain rfl := VRs.inv_nil r2
      exact call_range_1 (go (by omega) (by omega) h.1 h.2.1 (by rw [Int.sub_zero]; exact h.2.2))
    | cons b l =>
      replace h := isI_inv h; obtain ⟨y, rfl, h⟩ := h
      cases l with
      | nil =>
        replace r2 := VRs.inv_cons r2; obtain ⟨_, _, rfl, r2, r3⟩ := r2
        obtain rfl := VRs.inv_nil r3
        obtain ⟨_, rfl⟩ := VR.inv_i r2
        exact call_range_2 (go h.1 h.2.1 h.2.2.1 h.2.2.2.1 h.2.2.2.2)
      | cons _ _ => exact h.elim

theorem ss_forR (G : Gx K τ B) {x : Str} {i : Nat} {px pr : Pos} {es : Es} {pc : Pos} {b : Ss} {p : Pos} (he : SEs prog τ B Φ n es) (hb : SSs prog τ B Φ n b) : SSt prog τ B Φ n (.forR x i px pr es pc b p) := fun C lk gl A W st s N R Cn X Q' E' Z F ro ok hA hτ T h kf kx => by
  simp only [or13, Bool.and_eq_true] at ok
  obtain ⟨⟨⟨o1, o2⟩, o3⟩, o4⟩ := ok
  simp only [wr12] at h
  obtain ⟨h0, h⟩ := h
  have hh : C.hnd = none := (hnd_none hA h0).1
  show wpAny _ _ (exec (.For (.Name x px) (.Call (.Name "range" pr) (embs es) [] pc) (embSs b) [] p) C.env) _ _ _
  refine wpAny_For (Call_Name rfl (load_blt Z G T o3 G.k.range boot_range (by decide) ?_)) (fun y => rfl)
  refine PyProof.Rows.callWith_type (stars_plain C.env pc o2) (args_ok o2 (he C lk gl A W st s _ _ _ _ pc Z o2 hA hτ T h (fun W₁ st₁ s₁ l vs l₁ T₁ r₁ e₁ h₁ => ?_) kx))
  refine range_iter hh T₁ r₁ h₁ fun I o Ob items s' XT hOb T₂ hIq h₂ => ?_
  exact for_loop (for1_body hb) Z F ro (by simp [o1, o4]) hA hh (tle hτ l₁) XT hIq (fun _ _ _ l => kf.n _ _ _ (l₁.trans l)) (fun _ _ _ _ _ l => kf.r _ _ _ _ _ (l₁.trans l)) (kx.mono l₁) items 0 W₁ st₁ _ o rfl (.refl _) T₂ hOb trivial h₂
end
end Mine
end

noncomputable section
open PySem PySem.W PyProof.Rows PySem.Calls PySem.Spec PySem.SeqAt PySem.Builtin
set_option maxRecDepth 100000
namespace Mine

noncomputable def ExcOk (K : Frag) : Prop := ∀ c, c = 59 ∨ c = 71 → exmOne K (.ref c) (.ref c) = some true

section
variable {prog : Program} {K : Frag} {τ : List (Addr × List Value)} {B : Bx} {Φ : Fn} {n : Nat}

theorem ss_tr (G : Gx K τ B) (Y : ExcOk K) {b : Ss} {x : Str} {c : Nat} {px : Pos} {t : S} {ts : Ss} {ph p : Pos} (hb : SSs prog τ B Φ n b) (ht : SSs prog τ B Φ n (.cons t ts)) : SSt prog τ B Φ n (.tr b x c px (.cons t ts) ph p) := fun C lk gl A W st s N R Cn X Q' E' Z F ro ok hA hτ T h kf kx => by
  simp only [or17, Bool.and_eq_true, beq_iff_eq, Bool.or_eq_true] at ok
  obtain ⟨⟨⟨⟨⟨o1, o2⟩, o3⟩, o4⟩, o5⟩, o6⟩ := ok
  simp only [wr16] at h
  obtain ⟨h0, h⟩ := h
  have hh : C.hnd = none := (hnd_none hA h0).1
  have hA0 : A.handled = none := (hnd_none hA h0).2
  show wpAny _ _ (exec (.Try (embSs b) [.ExceptHandler (some (.Name x px)) none (embS t :: embSs ts) ph] [] [] p) C.env) _ _ _
  refine wpAny_Try_except (hb C lk gl A W st s _ _ _ _ _ _ Z F ro o3 hA hτ T h ⟨fun W₁ st₁ s₁ l₁ T₁ h₁ => wpAny_execs_nil (kf.n _ _ _ l₁ T₁ h₁), fun W₁ st₁ s₁ av v l₁ T₁ r₁ h₁ => kf.r _ _ _ _ _ l₁ T₁ r₁ h₁, fun W₁ st₁ s₁ l₁ T₁ h₁ => kf.c _ _ _ l₁ T₁ h₁⟩ ?_)
  intro W₁ st₁ s₁ c' e l₁ T₁ x₁ h₁
  obtain ⟨rfl, h₁⟩ := h₁
  refine note_ok Z F hA.frames T₁ x₁ fun h' T₂ x₂ => flight_ok T₂ x₂ none fun h'' T₃ x₃ => ?_
  obtain ⟨-, hb', hq, oe, vs, he, hc, hd, h2, Ta, oT, tss, t1, t2⟩ := id x₃
  refine wpAny_handleBy_cons (codeAny_handlers_test (load_glob Z G T₃ o1 (G.k.fns x c' o2) ?_)) (by intro q; cases q)
  have LT : Looks (model prog B.w) h'' (typeOf (.ref e)) (.ref c') := hc ▸ (Looks.ld he).andThen .now
  refine (exm_one (M := model prog B.w) (G.X.keeps T₃.stays) LT (Y c' o6)).here ?_
  rw [if_pos rfl]
  refine codeAny_handlers_suite (flight_ok T₃ x₃ none fun h₄ T₄ x₄ => ?_)
  obtain ⟨-, hb4, hq4, oe4, vs4, he4, hc4, hd4, h24, _⟩ := id x₄
  have T₅ : Stt B { C with hnd := some e } W₁ st₁ { s₁ with heap := h₄ } := { T₄ with hnd := ⟨oe4, vs4, he4, hd4, h24⟩ }
  have Z₅ : CxOk B { C with hnd := some e } lk gl := { Z with }
  have F₅ : FCx { C with hnd := some e } := ⟨F.head, F.frame⟩
  have hA₅ : AOk { C with hnd := some e } (A.mark (some (.ref e))) n := ⟨hA.frames, hA.depth, hA.units, rfl⟩
  refine ht { C with hnd := some e } lk gl (A.mark (some (.ref e))) W₁ st₁ _ N R Cn (fun _ _ => False) _ _ Z₅ F₅ ro (by simp [ors0, ors1, o4, o5]) hA₅ (tle hτ l₁) T₅ h₁ ⟨fun W₆ st₆ s₆ l₆ T₆ h₆ => ?_, fun W₆ st₆ s₆ av v l₆ T₆ r₆ h₆ => ?_, fun W₆ st₆ s₆ l₆ T₆ h₆ => ?_⟩ kx_false
  · exact kf.n _ _ _ (l₁.trans l₆) { T₆ with hnd := by rw [hh]; trivial } h₆
  · exact kf.r _ _ _ _ _ (l₁.trans l₆) { T₆ with hnd := by rw [hh]; trivial } r₆ h₆
  · exact kf.c _ _ _ (l₁.trans l₆) { T₆ with hnd := by rw [hh]; trivial } h₆
end
end Mine
end

noncomputable section
open PySem PySem.W PyProof.Rows PySem.Calls PySem.Spec PySem.SeqAt PySem.Builtin
set_option maxRecDepth 100000
namespace Mine

set_option backward.eqns.nonrecursive false in
noncomputable def stepF (tab : Nat → Option FK) (Φ : Fn) : Fn := fun hd f vs hp Q X => match tab f with
  | some (.fn n d k b) => vs.length ≤ n ∧ n ≤ vs.length + d.length ∧ bodyQ Φ hd k b (vs ++ d.drop (vs.length + d.length - n)) hp Q X
  | some (.cls i) => Φ hd i (.obj hp.length :: vs) (hp ++ [.inst f []]) (fun v h => v = .none ∧ Q (.obj hp.length) h) X
  | none => False

set_option backward.eqns.nonrecursive false in
noncomputable def lkF (sc : Scope) : LK := fun i => sc.names[i]?.bind fun q => if (q.2 == .local) = true then some (q.1, false) else if (q.2 == .cell) = true then some (q.1, true) else none
set_option backward.eqns.nonrecursive false in
noncomputable def nmL (q : Option (Str × NameKind)) : Option Str := q.bind fun q => if (q.2 == .local) = true then some q.1 else none
set_option backward.eqns.nonrecursive false in
noncomputable def clL (cs : List (Str × Addr)) (q : Option (Str × NameKind)) : Option (Str × Addr) := q.bind fun q => if (q.2 == .cell) = true then (cs.lookup q.1).map fun c => (q.1, c) else none
theorem nmL_inv {q : Option (Str × NameKind)} {y : Str} (e : nmL q = some y) : q = some (y, .local) := by
  obtain ⟨⟨x, k⟩, rfl, e⟩ := Option.bind_eq_some_iff.mp e
  obtain ⟨h, rfl⟩ := ite_some e
  rw [show k = .local from beq_iff_eq.mp h]
theorem clL_inv {cs : List (Str × Addr)} {q : Option (Str × NameKind)} {y : Str} {c : Addr} (e : clL cs q = some (y, c)) : q = some (y, .cell) ∧ cs.lookup y = some c := by
  obtain ⟨⟨x, k⟩, rfl, e⟩ := Option.bind_eq_some_iff.mp e
  by_cases h : (k == NameKind.cell) = true
  · obtain ⟨c', h1, h2⟩ := Option.map_eq_some_iff.mp ((if_pos h).symm.trans e)
    cases h2
    exact ⟨by rw [show k = .cell from beq_iff_eq.mp h], h1⟩
  · exact non ((if_neg h).symm.trans e)
theorem lkF_inv {sc : Scope} {i : Nat} {x : Str} {b : Bool} (e : lkF sc i = some (x, b)) : sc.names[i]? = some (x, if b then .cell else .local) := by
  obtain ⟨⟨y, k⟩, h, e⟩ := Option.bind_eq_some_iff.mp e
  by_cases c : (k == NameKind.local) = true
  · cases (if_pos c).symm.trans e
    rw [h, show k = .local from beq_iff_eq.mp c]; rfl
  · obtain ⟨d, e⟩ := ite_some ((if_neg c).symm.trans e)
    cases e
    rw [h, show k = .cell from beq_iff_eq.mp d]; rfl
noncomputable def okF (sc : Scope) (ps : List Str) (k : Nat) (b : Ss) : Bool :=
  okSs (lkF sc) (glS sc) b && (sc.kind == .function && sc.isGenerator == false && sc.isCoroutine == false) && decide ((sc.names.map (·.1)).Nodup) && decide (ps.length ≤ k) && (sc.names.map (·.1)).take ps.length == ps &&
    (sc.names.take ps.length).all (fun y => y.2 == .local || y.2 == .cell) && sc.names.all fun y => !(y.1 == ("__debug__" : Str)) && !(y.1 == ("__classdict__" : Str))

structure FnAt (K : Frag) (f : Nat) (np : Nat) (d : List AV) (k : Nat) (b : Ss) (fd : FuncData) (ps : List Str) (dvs : List Value) : Prop where
  look : ∃ oc od osl, K.lookup f = some ⟨oc, od, .func fd, osl⟩
  body : fd.body = .stmts (embSs b)
  code : codeIn K fd.code fd.qualname = true
  clo : fd.closure = []
  glob : fd.globals = mainGlobals
  blt : fd.builtins = builtinsNs
  len : ps.length = np
  binds : ∀ vs : List Value, vs.length ≤ np → np ≤ vs.length + d.length → ∀ S, peek K S (bindArgs fd ⟨vs, []⟩) = some (ps.zip (vs ++ dvs.drop (vs.length + d.length - np)))
  dflt : ∀ W, VRs W d dvs
  ok : okF fd.scope ps k b = true
structure ClsAt (K : Frag) (f i : Nat) : Prop where
  is : f = 155 ∨ f = 313
  makes : makesIn K f = true
  init : findIn K (.ref f) "__init__" = some (some (.ref i))
  typ : typeIn K (.ref i) = some (.type "function")
noncomputable def TabOk (K : Frag) (tab : Nat → Option FK) : Prop := ∀ f, (∀ n d k b, tab f = some (.fn n d k b) → ∃ fd ps dvs, FnAt K f n d k b fd ps dvs) ∧ ∀ i, tab f = some (.cls i) → ClsAt K f i

section
variable (prog : Program) (τ : List (Addr × List Value)) (B : Bx) (Φ : Fn) (n : Nat)
noncomputable def FnOkC : Prop := ∀ (C : Cx) (A : Around) (W : Wd) (st : St) (s : Shared) (f : Nat) (avs : List AV) (vs : List Value) (Q : AV → Hp → Prop) (X : Nat → Hp → Prop) (R : Result → Shared → Prop),
  (∃ lk gl, CxOk B C lk gl) → AOk C A n → (∀ t ∈ τ, t ∈ W.τ) → Stt B C W st s → VRs W avs vs → Φ C.hnd.isSome f avs st.hp Q X →
  (∀ W' hp' s' av v, W.le W' → Stt B C W' ⟨st.loc, hp'⟩ s' → VR W' av v → Q av hp' → R (.ok (.ret v)) s') →
  (∀ W' hp' s' c e, W.le W' → Stt B C W' ⟨st.loc, hp'⟩ s' → XOk B C c e s' → X c hp' → R (.error (.ref e)) s') → codeAny (model prog B.w) A (.call (.ref f) ⟨vs, []⟩) R s
end

theorem lookup_of_get {α : Type} {l : List (Str × α)} {i : Nat} {x : Str} {k : α} (h : (l.map (·.1)).Nodup) (e : l[i]? = some (x, k)) : l.lookup x = some k := by
  induction l generalizing i with
  | nil => cases e
  | cons p r ih =>
    obtain ⟨y, u⟩ := p
    rw [List.lookup_cons]
    cases i with
    | zero => cases e; rw [beq_self_eq_true]
    | succ i =>
      rw [List.getElem?_cons_succ] at e
      rw [List.map_cons, List.nodup_cons] at h
      rw [show (x == y) = false from beq_eq_false_iff_ne.mpr fun q => h.1 (q ▸ List.mem_map.mpr ⟨_, List.mem_of_getElem? e, rfl⟩)]
      exact ih h.2 e
theorem get_inj {α : Type} {l : List (Str × α)} {i j : Nat} {x : Str} {k k' : α} (h : (l.map (·.1)).Nodup) (e : l[i]? = some (x, k)) (e' : l[j]? = some (x, k')) : i = j := by
  have h1 : (l.map (·.1))[i]? = some x := by rw [List.getElem?_map, e]; rfl
  have h2 : (l.map (·.1))[j]? = some x := by rw [List.getElem?_map, e']; rfl
  have hi := (List.getElem?_eq_some_iff.mp h1).1
  exact (List.getElem?_inj hi h).mp (h1.trans h2.symm)

theorem cellsFrom_some (names : List (Str × NameKind)) (n : Nat) (acc : List (Str × Addr)) (x : Str) (h : (x, NameKind.cell) ∈ names ∨ (acc.lookup x).isSome = true) : ((cellsFrom n names acc).lookup x).isSome = true := by
  induction names generalizing n acc with
  | nil => exact h.elim (fun q => by cases q) id
  | cons p r ih =>
    obtain ⟨y, kind⟩ := p
    unfold cellsFrom
    by_cases hk : (kind == NameKind.cell) = true
    · rw [if_pos hk]
      refine ih _ _ ?_
      rcases h with h | h
      · rcases List.mem_cons.mp h with e | h
        · cases e; right; rw [List.lookup_cons, beq_self_eq_true]; rfl
        · exact .inl h
      · exact .inr (lookup_more h)
    · rw [if_neg hk]
      refine ih _ _ ?_
      rcases h with h | h
      · rcases List.mem_cons.mp h with e | h
        · cases e; exact absurd (beq_self_eq_true _) hk
        · exact .inl h
      · exact .inr h

theorem bindL_at (kindOf : Str → Option NameKind) : ∀ (ps : List Str) (vs : List Value) (m : Str → Option Value) (i : Nat) (x : Str) (v : Value), ps.Nodup → ps[i]? = some x → vs[i]? = some v → kindOf x = some .local → bindL kindOf (ps.zip vs) m x = some v := by
  have keep : ∀ (ps : List Str) (vs : List Value) (m : Str → Option Value) (x : Str), x ∉ ps → bindL kindOf (ps.zip vs) m x = m x := by
    intro ps
    induction ps with
    | nil => intro vs m x _; rfl
    | cons p ps ih =>
      intro vs m x hx
      cases vs with
      | nil => rfl
      | cons v vs =>
        rw [List.mem_cons, not_or] at hx
        rw [List.zip_cons_cons]
        unfold bindL
        rw [ih _ _ _ hx.2]
        by_cases c : kindOf p = some .local
        · rw [if_pos c]; exact if_neg hx.1
        · rw [if_neg c]
  intro ps
  induction ps with
  | nil => intro vs m i x v _ h; cases h
  | cons p ps ih =>
    intro vs m i x v hn hp hv hk
    rw [List.nodup_cons] at hn
    cases vs with
    | nil => cases hv
    | cons u vs =>
      rw [List.zip_cons_cons]
      unfold bindL
      cases i with
      | zero =>
        simp only [List.getElem?_cons_zero, Option.some.injEq] at hp hv
        subst hp hv
        rw [keep _ _ _ _ hn.1, if_pos hk]; simp
      | succ i =>
        simp only [List.getElem?_cons_succ] at hp hv
        exact ih _ _ i x v hn.2 hp hv hk
theorem bindC_at (kindOf : Str → Option NameKind) : ∀ (ps : List Str) (vs : List Value) (m : Str → Option Value) (i : Nat) (x : Str) (v : Value), ps.Nodup → ps[i]? = some x → vs[i]? = some v → kindOf x ≠ some .local → bindC kindOf (ps.zip vs) m x = some v := by
  have keep : ∀ (ps : List Str) (vs : List Value) (m : Str → Option Value) (x : Str), x ∉ ps → bindC kindOf (ps.zip vs) m x = m x := by
    intro ps
    induction ps with
    | nil => intro vs m x _; rfl
    | cons p ps ih =>
      intro vs m x hx
      cases vs with
      | nil => rfl
      | cons v vs =>
        rw [List.mem_cons, not_or] at hx
        rw [List.zip_cons_cons]
        unfold bindC
        rw [ih _ _ _ hx.2]
        by_cases c : kindOf p = some .local
        · rw [if_pos c]
        · rw [if_neg c]; exact if_neg hx.1
  intro ps
  induction ps with
  | nil => intro vs m i x v _ h; cases h
  | cons p ps ih =>
    intro vs m i x v hn hp hv hk
    rw [List.nodup_cons] at hn
    cases vs with
    | nil => cases hv
    | cons u vs =>
      rw [List.zip_cons_cons]
      unfold bindC
      cases i with
      | zero =>
        simp only [List.getElem?_cons_zero, Option.some.injEq] at hp hv
        subst hp hv
        rw [keep _ _ _ _ hn.1, if_neg hk]; simp
      | succ i =>
        simp only [List.getElem?_cons_succ] at hp hv
        exact ih _ _ i x v hn.2 hp hv hk

noncomputable def Cx.fn (C : Cx) (env : Env) (sc : Scope) (m : Str → Option Value) (l : List (Addr × Obj)) : Cx :=
  { env := env
    nm := fun i => nmL sc.names[i]?
    cl := fun i => clL env.cells sc.names[i]?
    ons := (C.env.locals, m) :: C.ons, outs := l ++ C.outs, envs := env :: C.envs, hnd := C.hnd, ro := false }

theorem fn_cx {B : Bx} {C : Cx} {lk : LK} {gl : Str → Bool} (Z : CxOk B C lk gl) {fd : FuncData} {L a : Addr} {ps : List Str} {k : Nat} {b : Ss} {m : Str → Option Value} {l : List (Addr × Obj)} (ok : okF fd.scope ps k b = true) (hg : fd.globals = mainGlobals) (hb : fd.builtins = builtinsNs) (hl : ∀ p ∈ l, ∃ v, p.2.data = .cell v) :
    CxOk B (C.fn (callEnvC fd L a) fd.scope m l) (lkF fd.scope) (glS fd.scope) := by
  simp only [okF, Bool.and_eq_true, decide_eq_true_eq, beq_iff_eq, List.all_eq_true, Bool.not_eq_true'] at ok
  obtain ⟨⟨⟨⟨⟨⟨o1, ⟨o2, o3⟩, o4⟩, o5⟩, o6⟩, o7⟩, o8⟩, o9⟩ := ok
  have nmAt : ∀ i y, (C.fn (callEnvC fd L a) fd.scope m l).nm i = some y → fd.scope.names[i]? = some (y, .local) := fun i y e => nmL_inv e
  have clAt : ∀ i y c, (C.fn (callEnvC fd L a) fd.scope m l).cl i = some (y, c) → fd.scope.names[i]? = some (y, .cell) ∧ (callEnvC fd L a).cells.lookup y = some c := fun i y c e => clL_inv e
  refine { kind := o2, globals := hg, builtins := hb, lk := ?_, nm := ?_, inj := ?_, nc := ?_, cl := ?_, gl := ?_, outs := ?_, frs := ?_ }
  · intro i x bb e
    have hy := lkF_inv e
    cases bb with
    | false => exact congrArg nmL hy
    | true =>
      have := cellsFrom_some fd.scope.names (L + 1) [] x (.inl (List.mem_of_getElem? hy))
      obtain ⟨c, hc⟩ := Option.isSome_iff_exists.mp this
      refine ⟨c, (congrArg (clL _) hy).trans ?_⟩
      show ((cellsFrom (L + 1) fd.scope.names []).lookup x).map _ = _
      rw [hc]; rfl
  · intro i x e
    have h := nmAt i x e
    exact ⟨lookup_of_get o5 h, (o9 _ (List.mem_of_getElem? h)).1⟩
  · intro i j y e e'
    exact get_inj o5 (nmAt i y e) (nmAt j y e')
  · intro i y c e
    exact congrArg nmL (clAt i y c e).1
  · intro i y c e
    obtain ⟨h1, h2⟩ := clAt i y c e
    exact ⟨.inl (lookup_of_get o5 h1), h2, (o9 _ (List.mem_of_getElem? h1)).1, (o9 _ (List.mem_of_getElem? h1)).2⟩
  · intro y e
    simp only [glS, Bool.and_eq_true, beq_iff_eq, Bool.not_eq_true'] at e
    exact e
  · intro q hq es n e
    rcases List.mem_append.mp hq with h | h
    · obtain ⟨v, hv⟩ := hl q h
      rw [hv] at e; cases e
    · exact Z.outs q h es n e
  · intro env he
    rcases List.mem_cons.mp he with rfl | he
    · exact ⟨by show fd.scope.kind ≠ _; rw [o2]; decide, L, rfl, .inl rfl⟩
    · obtain ⟨a', L', b', c⟩ := Z.frs env he
      refine ⟨a', L', b', .inr ?_⟩
      rcases c with rfl | ⟨m', hm⟩
      · exact ⟨m, .head _⟩
      · exact ⟨m', .tail _ hm⟩
end Mine
end

noncomputable section
open PySem PySem.W PyProof.Rows PySem.Calls PySem.Spec PySem.SeqAt PySem.Builtin
set_option maxRecDepth 100000
namespace Mine

section
variable {prog : Program} {K : Frag} {τ : List (Addr × List Value)} {B : Bx} {Φ : Fn} {n : Nat}

theorem fnOk_of (h : FnOkC prog τ B Φ n) : FnOk prog τ B Φ n := fun C A W st s f avs vs Q X Q' E' Z hA hτ T r hw kr kx =>
  wpAny_call (h C A W st s f avs vs Q X _ Z hA hτ T r hw kr kx)

theorem call_gen {b : Ss} (G : Gx K τ B) {f np k : Nat} {d : List AV} {fd : FuncData} {ps : List Str} {dvs : List Value} (FA : FnAt K f np d k b fd ps dvs)
    {C : Cx} {A : Around} {W : Wd} {st : St} {s : Shared} {oal : List (Option AV)} {vs vl : List Value} {Q : AV → Hp → Prop} {X : Nat → Hp → Prop} {R : Result → Shared → Prop} {lk : LK} {gl : Str → Bool} (Z : CxOk B C lk gl) (hA : AOk C A (n + 1)) (hτ : ∀ t ∈ τ, t ∈ W.τ)
    (T : Stt B C W st s) (r : ∀ (i : Nat) (av : AV), oal[i]? = some (some av) → ∃ v, vl[i]? = some v ∧ VR W av v) (hbd : ∀ S, peek K S (bindArgs fd ⟨vs, []⟩) = some (ps.zip vl)) (hall : oal.length = np) (hvll : vl.length = np)
    (hb : ∀ (C' : Cx) (A' : Around) (s' : Shared) (Q' : Flow → Shared → Prop) (E' : Value → Shared → Prop), CxOk B C' (lkF fd.scope) (glS fd.scope) → FCx C' → AOk C' A' n → C'.ro = false → C'.hnd = C.hnd → Stt B C' W ⟨oal ++ List.replicate (k - oal.length) none, st.hp⟩ s' →
      (∀ (i : Nat) (x : Str) (v : Value), ps[i]? = some x → vl[i]? = some v → C'.env.kindOf x = some NameKind.local → ∃ m', s'.heap.Ns C'.env.locals m' ∧ m' x = some v) → C'.env.kindOf = (fun y => fd.scope.names.lookup y) →
      KF B C' W (fun st => Q .none st.hp) (fun v st => Q v st.hp) (fun _ => False) Q' → KX B C' W (fun c st => X c st.hp) E' → wpAny (model prog B.w) A' (execs (embSs b) C'.env) Q' E' s')
    (kr : ∀ W' hp' s' av v, W.le W' → Stt B C W' ⟨st.loc, hp'⟩ s' → VR W' av v → Q av hp' → R (.ok (.ret v)) s')
    (kx : ∀ W' hp' s' c e, W.le W' → Stt B C W' ⟨st.loc, hp'⟩ s' → XOk B C c e s' → X c hp' → R (.error (.ref e)) s') : codeAny (model prog B.w) A (.call (.ref f) ⟨vs, []⟩) R s := by
  obtain ⟨oc, od, osl, look⟩ := FA.look
  have X₀ := G.X.keeps T.stays
  obtain ⟨_, _, mg, mb, TR⟩ := G.T
  have hlim : s.heap.NoLimit := TR.nolimit.keeps T.stays
  have ok := FA.ok
  simp only [okF, Bool.and_eq_true, decide_eq_true_eq, beq_iff_eq, List.all_eq_true, Bool.not_eq_true', Bool.or_eq_true] at ok
  obtain ⟨⟨⟨⟨⟨⟨o1, ⟨o2, o3⟩, o4⟩, o5⟩, o6⟩, o7⟩, o8⟩, o9⟩ := ok
  have hpl : ps.length = np := FA.len
  have hbind : BindsTo s fd ⟨vs, []⟩ (ps.zip vl) := kp_binds X₀ hbd
  have hpn : ps.Nodup := by rw [← o7]; exact List.Pairwise.sublist (List.take_sublist _ _) o5
  have pAt : ∀ (i : Nat) (x : Str), ps[i]? = some x → ∃ kk, fd.scope.names[i]? = some (x, kk) ∧ (kk = NameKind.local ∨ kk = NameKind.cell) := by
    intro i x e
    have hi := (List.getElem?_eq_some_iff.mp e).1
    have e' : ((fd.scope.names.map (·.1)).take ps.length)[i]? = some x := by rw [o7]; exact e
    rw [List.getElem?_take_of_lt hi, List.getElem?_map] at e'
    cases q : fd.scope.names[i]? with
    | none => rw [q] at e'; cases e'
    | some p =>
      rw [q] at e'
      obtain ⟨x', kk⟩ := p
      have : x' = x := by simpa using e'
      subst this
      refine ⟨kk, rfl, ?_⟩
      have hm : (x', kk) ∈ fd.scope.names.take ps.length := by
        have : (fd.scope.names.take ps.length)[i]? = some (x', kk) := by rw [List.getElem?_take_of_lt hi]; exact q
        exact List.mem_of_getElem? this
      exact o8 _ hm
  refine codeAny_call_function (by have := hA.depth; omega) (X₀ _ _ look) rfl o4 o3 FA.body (codeRec_of X₀ FA.code) (hbind _ _ _ _ ?_)
  rw [FA.clo]
  refine wpAny_newFunctionEnv_cells o2 (fun y hy => ?_) fun env he s₁ x => ?_
  · obtain ⟨hy1, hy2⟩ := List.of_mem_zip hy
    obtain ⟨i, hi⟩ := List.getElem?_of_mem hy1
    obtain ⟨kk, hk, hkk⟩ := pAt i y.1 hi
    rcases hkk with rfl | rfl
    · exact .inl (lookup_of_get o5 hk)
    · exact .inr ⟨lookup_of_get o5 hk, cellsFrom_some _ _ _ _ (.inl (List.mem_of_getElem? hk))⟩
  have he' : env = callEnvC fd s.heap.objs.size f := he
  subst he'
  clear he
  refine ⟨hlim.keeps x.toInCall.keep, codeAny_func ?_⟩
  obtain ⟨m, Hm⟩ := T.hereOf
  obtain ⟨l, Hl⟩ := cells_out T
  have Z' := fn_cx (a := f) (L := s.heap.objs.size) (m := m) (l := l) Z FA.ok FA.glob FA.blt (fun p hp => (Hl.at_ p hp).2)
  have F' : FCx (C.fn (callEnvC fd s.heap.objs.size f) fd.scope m l) := ⟨⟨_, rfl⟩, rfl⟩
  have hA' : AOk (C.fn (callEnvC fd s.heap.objs.size f) fd.scope m l) (A.deeper (callEnvC fd s.heap.objs.size f)) n := by
    refine ⟨?_, ?_, ?_, hA.handled⟩
    · show A.frames.map _ = _
      rw [hA.frames]; rfl
    · have := hA.depth
      show A.depth + 1 + 4 * n + 20 < _
      omega
    · have := hA.units
      show A.units + 3 + 30 * n + 200 < _
      omega
  obtain ⟨h₁, tk, rfl, keep⟩ := x.done
  have kd : ∀ {i : Nat} {y : Str} {kk : NameKind}, fd.scope.names[i]? = some (y, kk) → (callEnvC fd s.heap.objs.size f).kindOf y = some kk := fun e => lookup_of_get o5 e
  have T' : Stt B (C.fn (callEnvC fd s.heap.objs.size f) fd.scope m l) W ⟨oal ++ List.replicate (k - oal.length) none, st.hp⟩ { s with heap := h₁, toks := tk } := by
    have locAt : ∀ (i : Nat) (av : AV), (oal ++ List.replicate (k - oal.length) none)[i]? = some (some av) → oal[i]? = some (some av) := by
      intro i av e
      by_cases hi : i < oal.length
      · rw [List.getElem?_append_left hi] at e; exact e
      · rw [List.getElem?_append_right (by omega), List.getElem?_replicate] at e
        by_cases q : i - oal.length < k - oal.length
        · rw [if_pos q] at e; cases e
        · rw [if_neg q] at e; cases e
    have psAt : ∀ (i : Nat) (av : AV), oal[i]? = some (some av) → ∃ y v, ps[i]? = some y ∧ vl[i]? = some v ∧ VR W av v := by
      intro i av e
      obtain ⟨v, hv, rv⟩ := r i av e
      have hi := (List.getElem?_eq_some_iff.mp e).1
      exact ⟨ps[i]'(by omega), v, List.getElem?_eq_getElem _, hv, rv⟩
    refine T.enter Hm Hl (C' := C.fn (callEnvC fd s.heap.objs.size f) fd.scope m l) keep (Nat.le_refl _) rfl rfl rfl x.toInCall.ns (fun i y av hy hj => ?_) (fun i y c av hc hj => ?_)
    · have hz := nmL_inv hy
      obtain ⟨y', v, e1, e2, e3⟩ := psAt i av (locAt i av hj)
      obtain ⟨kk, hk, -⟩ := pAt i y' e1
      rw [hz] at hk; cases hk
      exact ⟨v, bindL_at _ ps vl _ i _ v hpn e1 e2 (kd hz), e3⟩
    · obtain ⟨hz, q1⟩ := clL_inv hc
      obtain ⟨y', v, e1, e2, e3⟩ := psAt i av (locAt i av hj)
      obtain ⟨kk, hk, -⟩ := pAt i y' e1
      rw [hz] at hk; cases hk
      have cv := bindC_at (callEnvC fd s.heap.objs.size f).kindOf ps vl (fun _ => none) i _ v hpn e1 e2 (by rw [kd hz]; decide)
      have := x.cell _ _ q1
      rw [cv] at this
      exact ⟨v, this, e3⟩
  have lv : ∀ {W' : Wd} {st' : St} {s' : Shared}, W.le W' → Stt B (C.fn (callEnvC fd s.heap.objs.size f) fd.scope m l) W' st' s' → Stt B C W' ⟨st.loc, st'.hp⟩ s' := fun le T'' => T.leave Hm Hl T'' le rfl (fun q hq => hq) rfl
  refine hb (C.fn (callEnvC fd s.heap.objs.size f) fd.scope m l) _ _ _ _ Z' F' hA' rfl rfl T' ?_ rfl ⟨fun W' st' s' l' T'' h' => kr _ _ _ _ _ l' (lv l' T'') .none h', fun W' st' s' av v l' T'' r' h' => kr _ _ _ _ _ l' (lv l' T'') r' h', fun W' st' s' l' T'' h' => h'.elim⟩ ?_
  · intro i x' v hp' hv' hk'
    exact ⟨_, x.toInCall.ns, bindL_at _ ps vl _ i _ v hpn hp' hv' hk'⟩
  intro W' st' s' c e l' T'' x'' h'
  unfold leaving
  refine wpAny_bind (note_ok Z' F' hA'.frames T'' x'' fun h₂ T₂ x₂ => flight_ok T₂ x₂ none fun h₃ T₃ x₃ => ?_)
  refine kx W' st'.hp _ c e l' (lv l' T₃) ?_ h'
  obtain ⟨a1, a2, a3, oe, vs', b1, b2, b3, b4, Ta, oT, ts, t1, t2, t3, t4, t5, t6, t7⟩ := x₃
  exact ⟨a1, a2, fun q hq => a3 q (List.mem_append_right _ hq), oe, vs', b1, b2, b3, b4, .inr ⟨Ta, oT, ts, _, t1, t2, fun q hq => t3 q (List.mem_append_right _ hq), t4, t5, t6, t7, .inl rfl⟩⟩

theorem call_def {b : Ss} (HS : SSs prog τ B Φ n b) (G : Gx K τ B) {f np k : Nat} {d : List AV} {fd : FuncData} {ps : List Str} {dvs : List Value} (FA : FnAt K f np d k b fd ps dvs)
    {C : Cx} {A : Around} {W : Wd} {st : St} {s : Shared} {avs : List AV} {vs : List Value} {Q : AV → Hp → Prop} {X : Nat → Hp → Prop} {R : Result → Shared → Prop} {lk : LK} {gl : Str → Bool} (Z : CxOk B C lk gl) (hA : AOk C A (n + 1)) (hτ : ∀ t ∈ τ, t ∈ W.τ)
    (T : Stt B C W st s) (r : VRs W avs vs) (h : avs.length ≤ np ∧ np ≤ avs.length + d.length ∧ bodyQ Φ C.hnd.isSome k b (avs ++ d.drop (avs.length + d.length - np)) st.hp Q X)
    (kr : ∀ W' hp' s' av v, W.le W' → Stt B C W' ⟨st.loc, hp'⟩ s' → VR W' av v → Q av hp' → R (.ok (.ret v)) s')
    (kx : ∀ W' hp' s' c e, W.le W' → Stt B C W' ⟨st.loc, hp'⟩ s' → XOk B C c e s' → X c hp' → R (.error (.ref e)) s') : codeAny (model prog B.w) A (.call (.ref f) ⟨vs, []⟩) R s := by
  obtain ⟨h1, h2, h⟩ := h
  have hlen : vs.length = avs.length := r.length
  have rl : VRs W (avs ++ d.drop (avs.length + d.length - np)) (vs ++ dvs.drop (vs.length + d.length - np)) := by rw [hlen]; exact r.app ((FA.dflt W).drop _)
  have hall : (avs ++ d.drop (avs.length + d.length - np)).length = np := by rw [List.length_append, List.length_drop]; exact (Nat.add_sub_assoc (Nat.sub_le_iff_le_add'.mpr (Nat.add_le_add_right h1 d.length)) _).symm.trans (Nat.sub_sub_self h2)
  have ok := FA.ok
  simp only [okF, Bool.and_eq_true] at ok
  refine call_gen (n := n) (X := X) (Q := Q) (oal := (avs ++ d.drop (avs.length + d.length - np)).map some) G FA Z hA hτ T (fun i av e => ?_) (FA.binds vs (by omega) (by omega)) (by rw [List.length_map]; exact hall) (rl.length.trans hall) (fun C' A' s' Q' E' Z' F' hA' ro hh T' _ _ kf kx => ?_) kr kx
  · rw [List.getElem?_map, Option.map_eq_some_iff] at e
    obtain ⟨_, e, q⟩ := e
    cases q
    exact rl.get e
  · refine HS C' _ _ _ W _ _ _ _ _ _ _ _ Z' F' ro ok.1.1.1.1.1.1 hA' hτ T' ?_ kf kx
    rw [hh, List.length_map]
    exact h

theorem under_ok {C : Cx} {A : Around} (hA : AOk C A (n + 1)) (f : Addr) (rest : List Value) : AOk C (A.under (.builtin "type.__call__" ⟨.ref f :: rest, []⟩)) n := by
  have ef : Code.frames (.builtin "type.__call__" ⟨.ref f :: rest, []⟩) = 0 := by rfl
  refine ⟨?_, ?_, ?_, hA.handled⟩
  · show pushEnvs (Code.envs (.builtin "type.__call__" ⟨.ref f :: rest, []⟩)) A.frames = _
    have e : Code.envs (.builtin "type.__call__" ⟨.ref f :: rest, []⟩) = [] := by rfl
    rw [e]; exact hA.frames
  · have e : Code.weight (.builtin "type.__call__" ⟨.ref f :: rest, []⟩) ≤ 3 := by
      have e2 : Code.isCaller (.builtin "type.__call__" ⟨.ref f :: rest, []⟩) = false := by rfl
      unfold Code.weight
      rw [ef, e2]
      simp only [Bool.false_eq_true, if_false]
      split <;> split <;> decide
    have := hA.depth
    show A.depth + Code.weight _ + 4 * n + 20 < _
    omega
  · have e : Code.cUnits (.builtin "type.__call__" ⟨.ref f :: rest, []⟩) = 1 := by
      show 1 + 3 * Code.frames _ = 1
      rw [ef]
    have := hA.units
    show A.units + Code.cUnits _ + 30 * n + 200 < _
    omega

theorem call_cls (FC : FnOkC prog τ B Φ n) (G : Gx K τ B) {f i : Nat} (FA : ClsAt K f i)
    {C : Cx} {A : Around} {W : Wd} {st : St} {s : Shared} {avs : List AV} {vs : List Value} {Q : AV → Hp → Prop} {X : Nat → Hp → Prop} {R : Result → Shared → Prop} {lk : LK} {gl : Str → Bool} (Z : CxOk B C lk gl) (hA : AOk C A (n + 1)) (hτ : ∀ t ∈ τ, t ∈ W.τ)
    (T : Stt B C W st s) (r : VRs W avs vs) (h : Φ C.hnd.isSome i (.obj st.hp.length :: avs) (st.hp ++ [.inst f []]) (fun v h => v = .none ∧ Q (.obj st.hp.length) h) X)
    (kr : ∀ W' hp' s' av v, W.le W' → Stt B C W' ⟨st.loc, hp'⟩ s' → VR W' av v → Q av hp' → R (.ok (.ret v)) s')
    (kx : ∀ W' hp' s' c e, W.le W' → Stt B C W' ⟨st.loc, hp'⟩ s' → XOk B C c e s' → X c hp' → R (.error (.ref e)) s') : codeAny (model prog B.w) A (.call (.ref f) ⟨vs, []⟩) R s := by
  have X₀ := G.X.keeps T.stays
  obtain ⟨hh, g, dd, tk, os⟩ := s
  refine make_core (makes_of X₀ FA.makes) (looks_findIn X₀ FA.init) (fun self => bind_fn X₀ self FA.typ) (.inl rfl) ?_
  have le : W.le ⟨W.ρ ++ [[hh.objs.size + 1, hh.objs.size]], W.τ⟩ := ⟨⟨_, rfl⟩, fun _ h => h⟩
  have hx : ((hh.push emptyDict).push (instObj f hh.objs.size)).get? (hh.objs.size + 1) = some (instObj f hh.objs.size) := by heap_get
  have hdx : ((hh.push emptyDict).push (instObj f hh.objs.size)).get? hh.objs.size = some emptyDict := Heap.get?_push_of_some _ (Heap.get?_push_size _ rfl)
  have T' : Stt B C ⟨W.ρ ++ [[hh.objs.size + 1, hh.objs.size]], W.τ⟩ ⟨st.loc, st.hp ++ [.inst f []]⟩ { heap := (hh.push emptyDict).push (instObj f hh.objs.size), gens := g, drawn := dd, toks := tk, os := os } := by
    refine T.addObj (tk := tk) (fun b o e => Heap.get?_push_of_some _ (Heap.get?_push_of_some _ e)) ?_ ?_ ⟨_, _, [], rfl, ⟨_, hx, rfl, rfl, rfl⟩, ⟨_, 0, hdx, rfl, rfl, rfl⟩, .nil, by simp, FA.is⟩
    · intro a ha
      simp only [List.mem_cons, List.not_mem_nil, or_false] at ha
      rcases ha with rfl | rfl
      · exact Nat.le_succ _
      · exact Nat.le_refl _
    · simp
  have ro : VR ⟨W.ρ ++ [[hh.objs.size + 1, hh.objs.size]], W.τ⟩ (.obj st.hp.length) (.ref (hh.objs.size + 1)) := .obj (r := [hh.objs.size]) (by rw [← T.objs.len]; simp)
  refine FC C _ _ _ _ i (.obj st.hp.length :: avs) (.ref (hh.objs.size + 1) :: vs) _ X _ ⟨lk, gl, Z⟩ (under_ok hA _ _) (tle hτ le) T' (.cons ro (VRs.mono le r)) h (fun W' hp' s' av v l' T'' r' h' => ?_) (fun W' hp' s' c e l' T'' x' h' => kx _ _ _ _ _ (le.trans l') T'' x' h')
  obtain ⟨rfl, h'⟩ := h'
  obtain rfl := VR.inv_n r'
  exact ⟨rfl, kr _ _ _ _ _ (le.trans l') T'' (ro.mono l') h'⟩

theorem step_ok (HS : ∀ b, SSs prog τ B Φ n b) (FC : FnOkC prog τ B Φ n) (G : Gx K τ B) {tab : Nat → Option FK} (TO : TabOk K tab) : FnOkC prog τ B (stepF tab Φ) (n + 1) := fun C A W st s f avs vs Q X R ⟨lk, gl, Z⟩ hA hτ T r h kr kx => by
  unfold stepF at h
  cases ht : tab f with
  | none => rw [ht] at h; exact h.elim
  | some q =>
    rw [ht] at h
    cases q with
    | fn np d k b =>
      obtain ⟨fd, ps, dvs, FA⟩ := (TO f).1 np d k b ht
      exact call_def (HS b) G FA Z hA hτ T r h kr kx
    | cls i => exact call_cls FC G ((TO f).2 i ht) Z hA hτ T r h kr kx
end
end Mine
end

noncomputable section
open PySem PySem.W PyProof.Rows PySem.Calls PySem.Spec PySem.SeqAt PySem.Builtin
set_option maxRecDepth 100000
namespace Mine

noncomputable def bmX : List Value := [.ref 46, .type "Exception", .type "BaseException", .type "object"]
theorem bmX_B : bmX.contains (.type "Exception") = true := by decide
theorem bmX_E : bmX.contains (.type "BaseException") = true := by decide
theorem bmX_A : bmX.contains (.type "AttributeError") = false := by decide
theorem bmX_N : bmX.contains (.type "NameError") = false := by decide

section
variable {prog : Program} {w : World} {A : Around} {E : Value → Shared → Prop} {R : Result → Shared → Prop} {h : Heap} {g : Array GenState} {d : Drawn} {t : Nat} {os : OsState} {K : Frag}
variable {nm q : Str} {C N : Addr} {bs : List Value} {hdct : Bool} {sn : List Str} {sub : List Value} {ab : Bool} {col : Option Bool} {dd : Option Addr} {k0 k1 k2 k3 k5 : Option Value}

theorem ex_check {rest : List Value} {Q : Unit → Shared → Prop} (hC : h.get? C = some (excClassObj nm q C N bs bmX hdct sn sub ab col dd k0 k1 k2 k3 k5 "Exception.__new__"))
    (hq : Q () ⟨h, g, d, t, os⟩) : wpAny (model prog w) A (checkBuiltinCall "Exception.__new__" ⟨.ref C :: rest, []⟩) Q E ⟨h, g, d, t, os⟩ := by
  have Fn := PySem.F.excBase_Exception
  have hcont : (Value.ref C :: bmX).contains (.type "Exception") = true := by rw [List.contains_cons, bmX_B, Bool.or_true]
  have hstar := Fn.noStar
  unfold checkBuiltinCall
  rw [Fn.newKind, Fn.newSplit, Fn.newRow]
  dsimp only
  repeat (first | refine wpAny_loadPart_at hC ?_ | (refine wpAny_isSubtype_exc hC ?_; rw [hcont]) | refine wpAny_staticBase_exc hC ?_ | refine wpAny_madeBy_exc hC ?_ | refine wpAny_ite_false (bne_self_eq_false _) ?_ | wp_step)
  exact hq

theorem ex_new {rest : List Value} (hC : h.get? C = some (excClassObj nm q C N bs bmX hdct sn sub ab col dd k0 k1 k2 k3 k5 "Exception.__new__"))
    (hq : R (.ok (.ret (.ref (h.objs.size + 1)))) ⟨(h.push { cls := .type "tuple", data := .seq rest.toArray }).push
      { cls := .ref C, data := .fields #[.ref h.objs.size, .none, .none, .none, .bool false, .none] }, g, d, t, os⟩) (hrest : rest.length ≤ sizeLine) :
    codeAny (model prog w) A (.builtin "Exception.__new__" ⟨.ref C :: rest, []⟩) R ⟨h, g, d, t, os⟩ := by
  have F := PySem.F.excBase_Exception
  have hends := F.ends
  have hcB : (Value.ref C :: bmX).contains (.type "Exception") = true := by rw [List.contains_cons, bmX_B, Bool.or_true]
  have hcA : (Value.ref C :: bmX).contains (.type "AttributeError") = false := by rw [List.contains_cons, bmX_A]; rfl
  have hcN : (Value.ref C :: bmX).contains (.type "NameError") = false := by rw [List.contains_cons, bmX_N]; rfl
  refine codeAny_builtinAt F.entry ?_
  unfold Builtin.«BaseException.__new__»
  refine PySem.wpAt_bind ?_
  show PySem.wpAt _ _ _ (stack >>= _) _ _ _
  refine PySem.wpAt_bind (PySem.wpAt_stack fun p below => PySem.wpAt_of_wpAny ?_)
  wp_walk
  refine PySem.wpAt_of_wpAny ?_
  rw [F.owner]
  repeat (first | with_reducible refine wpAny_madeHere_exc F.canon hC ?_ | with_reducible refine wpAny_loadPart_at hC ?_ | (with_reducible refine wpAny_isSubtype_exc hC ?_; first | rw [hcB] | rw [hcA] | rw [hcN]) | wp_step)
  show R _ _
  rw [Heap.size_push]
  exact hq

theorem ex_type {rest : List Value} {fI : Addr} {Q : PySem.Fin → Shared → Prop} (X : K.In h)
    (hK : K.lookup C = some (excClassObj nm q C N bs bmX hdct sn sub ab col dd k0 k1 k2 k3 k5 "Exception.__new__")) (hi : findIn K (.ref C) "__init__" = some (some (.ref fI))) (hf : typeIn K (.ref fI) = some (.type "function"))
    (hq : wpAny (model prog w) A (call (.ref fI) (.ref (h.objs.size + 1) :: rest)) (fun r s' => r = .none ∧ Q (.done (.ret (.ref (h.objs.size + 1)))) s') E
      ⟨(h.push { cls := .type "tuple", data := .seq rest.toArray }).push { cls := .ref C, data := .fields #[.ref h.objs.size, .none, .none, .none, .bool false, .none] }, g, d, t, os⟩) (hrest : rest.length ≤ sizeLine) :
    wpAny (model prog w) A (Builtin.«type.__call__» ⟨.ref C :: rest, []⟩) Q E ⟨h, g, d, t, os⟩ := by
  have F := PySem.F.excBase_Exception
  have hC := X _ _ hK
  repeat (first | with_reducible refine wpAny_loadPart_at hC ?_ | with_reducible refine wpAny_madeBy_exc hC ?_ | wp_step)
  refine codeAny_call_builtin_code (Code.quiet_builtin _ F.quiet) (ex_check hC ?_)
  refine ex_new hC ?_ hrest
  show wpAny _ _ _ _ _ _
  have k : ∀ b o, h.get? b = some o → ((h.push { cls := .type "tuple", data := .seq rest.toArray }).push { cls := .ref C, data := .fields #[.ref h.objs.size, .none, .none, .none, .bool false, .none] }).get? b = some o := fun b o e => Heap.get?_push_of_some _ (Heap.get?_push_of_some _ e)
  have hC₁ := k _ _ hC
  have X₁ := X.keeps k
  have hget : ((h.push { cls := .type "tuple", data := .seq rest.toArray }).push
      { cls := .ref C, data := .fields #[.ref h.objs.size, .none, .none, .none, .bool false, .none] }).get? (h.objs.size + 1) = some
      { cls := .ref C, data := .fields #[.ref h.objs.size, .none, .none, .none, .bool false, .none] } := by heap_get
  have hcC : (Value.ref C :: bmX).contains (.ref C) = true := by simp
  unfold isInstance
  repeat (first | with_reducible refine wpAny_loadPart_at hget ?_ | (with_reducible refine wpAny_isSubtype_exc hC₁ ?_; rw [hcC]) | wp_step)
  show wpAny _ _ (typeLookup (.ref C) _) _ _ _
  refine (looks_findIn (M := model prog w) X₁ hi).here ?_
  refine wpAny_holding (wpAny_bind ((bind_fn (M := model prog w) X₁ (.ref (h.objs.size + 1)) hf).here ?_))
  refine wpAny_bind (wpAny_mono hq (fun r s' hr => ?_) fun _ _ x => x)
  obtain ⟨rfl, hQ⟩ := hr
  wp_walk
  exact hQ

theorem ex_call {rest : List Value} {fI : Addr} {Q : Value → Shared → Prop} (X : K.In h)
    (hK : K.lookup C = some (excClassObj nm q C N bs bmX hdct sn sub ab col dd k0 k1 k2 k3 k5 "Exception.__new__")) (hi : findIn K (.ref C) "__init__" = some (some (.ref fI))) (hf : typeIn K (.ref fI) = some (.type "function"))
    (hq : wpAny (model prog w) (A.under (.builtin "type.__call__" ⟨.ref C :: rest, []⟩)) (call (.ref fI) (.ref (h.objs.size + 1) :: rest)) (fun r s' => r = .none ∧ Q (.ref (h.objs.size + 1)) s') E
      ⟨(h.push { cls := .type "tuple", data := .seq rest.toArray }).push { cls := .ref C, data := .fields #[.ref h.objs.size, .none, .none, .none, .bool false, .none] }, g, d, t, os⟩) (hrest : rest.length ≤ sizeLine) :
    wpAny (model prog w) A (call (.ref C) rest) Q E ⟨h, g, d, t, os⟩ := by
  have hC := X _ _ hK
  have f1 := tc_lookup
  have f2 := tc_bind (.ref C)
  have hT : (⟨h, g, d, t, os⟩ : Shared).TypeIs (.ref C) "type" := ⟨_, hC, rfl⟩
  refine wpAny_call (codeAny_of_tree ?_)
  show wpAny _ _ (callAny (.ref C) _) _ _ _
  repeat (any_goals (first | assumption | with_reducible refine wpAny_loadPart_at hC ?_ | wp_step))
  refine ⟨rfl, ?_⟩
  exact codeAny_call_builtin_at (Code.quiet_builtin _ (by decide +kernel)) entry_typeCall (wpAny_check_type_call_sub hC (ex_type X hK hi hf hq hrest))
end
end Mine
end

noncomputable section
open PySem PySem.W PyProof.Rows PySem.Calls PySem.Spec PySem.SeqAt PySem.Builtin
set_option maxRecDepth 100000
namespace Mine
open PySem.Builtin.ObjectAttr

section
variable {prog : Program} {w : World} {A : Around} {E : Value → Shared → Prop} {R : Result → Shared → Prop} {s : Shared} {K : Frag}

theorem exc_getinit (X : K.In s.heap) {pl : Sem Bool} {Q : Value × List Value → Shared → Prop} (e : findCls K (.type "Exception") (.type "type") "__init__" = some (.val (.builtin "Exception.__init__")))
    (h : ∀ tk, Q (.builtin "Exception.__init__", []) { s with toks := tk }) : wpAny (model prog w) A (getMethod (.type "Exception") "__init__" pl) Q E s := by
  have hstub : opaqueClassAbove (.type "Exception") = pure none := by unfold opaqueClassAbove; dsimp only; rw [show Manifest.isStub "Exception" = false from by kernel_rfl]; rfl
  have L0 : Looks (model prog w) s.heap (typeOf (.type "Exception")) (.type "type") := Looks.of_pure (by kernel_rfl)
  have hg : findIn K (.type "type") "__getattribute__" = some (some (.builtin "type.__getattribute__")) := type_tga
  unfold getMethod specialOf
  refine wpAny_bind (wpAny_bind (L0.here ((looks_findIn X hg).here ?_)))
  dsimp only
  rw [if_pos canon_tga]
  refine wpAny_bind (wpAny_mono (Q := fun v => Q (v, [])) (E := E) ?_ (fun _ _ z => wpAny_pure z) fun _ _ z => z)
  have LO : Looks (model prog w) s.heap (opaqueClassAbove (.type "Exception")) none := Looks.of_pure hstub
  refine cls_open X LO L0 hg (looks_hook X (r := none) (by rfl)) (by show subIn K _ _ = _; rfl) e
    (wpAny_pure (by show wpAny _ _ (handedOut _) _ _ _; rw [handedOut_of (by rfl)]; exact wpAny_pure (h _)))

theorem ex_chkinit {h : Heap} {g : Array GenState} {d : Drawn} {t : Nat} {os : OsState} {nm q : Str} {C N : Addr} {bs : List Value} {hdct : Bool} {sn : List Str} {sub : List Value} {ab : Bool} {col : Option Bool} {dd : Option Addr} {k0 k1 k2 k3 k5 : Option Value} {e : Addr} {oe : Obj} {rest : List Value} {Q : Unit → Shared → Prop}
    (hC : h.get? C = some (excClassObj nm q C N bs bmX hdct sn sub ab col dd k0 k1 k2 k3 k5 "Exception.__new__")) (he : h.get? e = some oe) (hcls : oe.cls = .ref C) (hq : Q () ⟨h, g, d, t, os⟩) :
    wpAny (model prog w) A (checkBuiltinCall "Exception.__init__" ⟨.ref e :: rest, []⟩) Q E ⟨h, g, d, t, os⟩ := by
  have F := PySem.F.excBase_Exception
  have hcB : (Value.ref C :: bmX).contains (.type "Exception") = true := by rw [List.contains_cons, bmX_B, Bool.or_true]
  have hshort := F.noStar
  simp only [checkBuiltinCall, F.initKind, F.initSplit, F.initRow]
  repeat (first | (with_reducible refine wpAny_loadPart_at he ?_; rw [hcls]) | with_reducible refine wpAny_loadPart_at hC ?_ | (with_reducible refine wpAny_isSubtype_exc hC ?_; rw [hcB]) | wp_step)
  refine wpAny_onRaise ?_
  rw [show ∀ (a b : String) (n : Nat), Bind.check ⟨.positional, "*", "Exception", .self, [⟨"args", .varPos, false⟩]⟩ a b n (List.map (fun x => x.fst) ({ pos := Value.ref e :: rest } : Args).kw) = pure () from
    fun a b n => check_star_args _ _ _ _ _ _]
  exact wpAny_pure hq

theorem ex_init {nm q : Str} {C N : Addr} {bs : List Value} {hdct : Bool} {sn : List Str} {sub : List Value} {ab : Bool} {col : Option Bool} {dd : Option Addr} {k0 k1 k2 k3 k5 : Option Value} {e t : Addr} {oe : Obj} {v : Value} {Q : Value → Shared → Prop}
    (hC : s.heap.get? C = some (excClassObj nm q C N bs bmX hdct sn sub ab col dd k0 k1 k2 k3 k5 "Exception.__new__")) (he : s.heap.get? e = some oe) (hcls : oe.cls = .ref C) (hd : oe.data = .fields #[.ref t, .none, .none, .none, .bool false, .none])
    (h : ∀ O, (∃ xs n, O.data = .seq xs n) → O.isFreed = false → Q .none { s with heap := (s.heap.push O).update e (Obj.mapFields (·.setIfInBounds 0 (.ref s.heap.objs.size))) }) :
    wpAny (model prog w) A (call (.builtin "Exception.__init__") [.ref e, v]) Q E s := by
  obtain ⟨hh, g, d, tk, os⟩ := s
  have F := PySem.F.excBase_Exception
  refine wpAny_call (codeAny_call_builtin F.init.plain F.initEntry (ex_chkinit hC he hcls ?_))
  unfold Builtin.«BaseException.__init__»
  dsimp only
  refine wpAny_ite_false rfl ?_
  unfold newTuple
  refine wpAny_bind (wpAny_newObj_type ?_ (by size_fits))
  have he' := Heap.get?_push_of_some (h := hh) { cls := .type "tuple", dict := none, data := .seq ([v] : List Value).toArray } he
  refine wpAny_bind ?_
  unfold PySem.Builtin.BaseException.bexcPut
  refine wpAny_bind (wpAny_field he' hd (x := .ref t) rfl ?_)
  refine wpAny_bind (wpAny_setField he' hd (by simp) ?_)
  refine wpAny_letGo (wpAny_pure (h _ ⟨_, _, rfl⟩ rfl))
end
end Mine
end

noncomputable section
open PySem PySem.W PyProof.Rows PySem.Calls PySem.Spec PySem.SeqAt PySem.Builtin
set_option maxRecDepth 100000
namespace Mine
open PySem.Builtin.ObjectAttr

section
variable {prog : Program} {w : World} {A : Around} {E : Value → Shared → Prop} {R : Result → Shared → Prop} {K : Frag} {h : Heap} {g : Array GenState} {d : Drawn} {t : Nat} {os : OsState}
variable {nm q : Str} {C N x : Addr} {bs : List Value} {sn : List Str} {sub : List Value} {ab : Bool} {col : Option Bool} {dd : Option Addr} {k0 k1 k2 k3 k5 : Option Value} {name : Str} {v : Value} {mA : Str → Option Value}

theorem ex_checksa {o : Obj} {nameV : Value} {Q : Unit → Shared → Prop}
    (hC : h.get? C = some (excClassObj nm q C N bs bmX true sn sub ab col dd k0 k1 k2 k3 k5 "Exception.__new__")) (hx : h.get? x = some o) (hc : o.cls = .ref C) (hq : Q () ⟨h, g, d, t, os⟩) :
    wpAny (model prog w) A (checkBuiltinCall "object.__setattr__" ⟨[.ref x, nameV, v], []⟩) Q E ⟨h, g, d, t, os⟩ := by
  have SF := PySem.F.store_Exception
  have hcB : (Value.ref C :: bmX).contains (.type "object") = true := by rw [List.contains_cons, show bmX.contains (.type "object") = true from by decide, Bool.or_true]
  have ha := SF.args (.ref x) nameV v
  unfold checkBuiltinCall
  rw [SF.kind, SF.split]
  dsimp only
  refine wpAny_bind ?_
  unfold isInstance
  repeat (first | (with_reducible refine wpAny_loadPart_at hx ?_; rw [hc]) | (with_reducible refine wpAny_isSubtype_exc hC ?_; rw [hcB]) | wp_step)
  exact hq

theorem no_cls {α : Type} {o : Data} (hn : ∀ c, o ≠ .cls c) {f g : Sem α} {Q : α → Shared → Prop} {s : Shared} (h : wpAny (model prog w) A g Q E s) : wpAny (model prog w) A (match o with | .cls _ => f | _ => g) Q E s := by
  cases o with
  | cls c => exact absurd rfl (hn c)
  | _ => exact h
theorem ex_store {tk : Tok} {ns : List Str} (X : K.In h)
    (hK : K.lookup C = some (excClassObj nm q C N bs bmX true sn sub ab col dd k0 k1 k2 k3 k5 "Exception.__new__")) (hnf : findIn K (.ref C) name = some none) (I : h.Inst x C mA)
    (hq : ∀ h' tk', h'.Inst x C (fun y => if y = name then some v else mA y) →
      (∀ b o, b ≠ x → (∀ o₀ dx, h.get? x = some o₀ → o₀.dict = some dx → b ≠ dx) → h.get? b = some o → h'.get? b = some o) →
      (∀ o₀, h.get? x = some o₀ → ∃ o₁, h'.get? x = some o₁ ∧ o₁.cls = o₀.cls ∧ o₁.data = o₀.data ∧ o₁.slots = o₀.slots ∧ ((∃ dx, o₁.dict = some dx ∧ ((o₀.dict = none ∧ h.objs.size ≤ dx) ∨ o₀.dict = some dx)))) → R (.ok (.ret .none)) ⟨h', g, d, tk', os⟩) (hw : Within mA ns) (hsz : ns.length ≤ sizeLine) :
    codeAny (model prog w) A (.call (.builtin "object.__setattr__") ⟨[.ref x, .str name tk, v], []⟩) R ⟨h, g, d, t, os⟩ := by
  have SF := PySem.F.store_Exception
  have hC := X _ _ hK
  obtain ⟨o, hx, hc, hnc, hd⟩ := I
  have hpass := SF.passes (.ref x)
  refine codeAny_call_builtin SF.slot.plain SF.entry (ex_checksa hC hx hc ?_)
  unfold Builtin.«object.__setattr__»
  repeat (first | rw [refuse_eq] | (unfold bmX; rw [refuseLoop_ref, refuseLoop_ref, hpass]) | (with_reducible refine wpAny_loadPart_at hx ?_; rw [hc]) | with_reducible refine wpAny_mroOf_exc hC ?_ | wp_step | (refine (looks_findIn (M := model prog w) X hnf).here ?_))
  rcases hd with ⟨hdn, hmA⟩ | ⟨dx, hdx, hne, hns⟩
  · rw [hdn, if_neg (by simp [typeHasDict])]
    refine no_cls hnc ?_
    have hx₁ : (h.push { cls := .type "dict", data := .dict #[] }).get? x = some o := Heap.get?_push_of_some _ hx
    have hxs : x ≠ h.objs.size := Nat.ne_of_lt (Heap.lt_size hx)
    refine wpAny_bind (wpAny_alloc' ?_)
    refine wpAny_bind (wpAny_update' hx₁ ?_)
    refine wpAny_pure ?_
    have hgd : ((h.push { cls := .type "dict", data := .dict #[] }).update x fun o => { cls := o.cls, dict := some h.objs.size, data := o.data, slots := o.slots }).get? h.objs.size
        = some { cls := .type "dict", data := .dict #[] } :=
      (Heap.get?_update_ne _ _ _ _ hxs.symm).trans (Heap.get?_push_at rfl rfl)
    have hnd : ((h.push { cls := .type "dict", data := .dict #[] }).update x fun o => { cls := o.cls, dict := some h.objs.size, data := o.data, slots := o.slots }).Ns h.objs.size (fun _ => none) :=
      ⟨_, #[], _, hgd, rfl, fun e he => absurd he (by simp), fun _ => rfl⟩
    show wpAny _ _ (storeInDict h.objs.size (.str name tk) name v) _ _ _
    unfold storeInDict newKeyGuard
    refine wpAny_bind (wpAny_pure (wpAny_bind (wpAny_nsSet1 (Heap.Ns1.of_empty hnd) fun h' hn' hs => ?_)))
    obtain ⟨oD, esD, epD, hoD, hdD, hcD⟩ := hn'.count (Within.cons name v Within.nil)
    refine wpAny_bind (wpAny_lookBehind hoD (by rw [hdD]; exact pastItsLine_dict (Nat.le_trans hcD (by rw [List.length_cons, List.length_nil, sizeLine_eq]; omega))) ?_)
    wp_walk
    have hx' : h'.get? x = some { cls := o.cls, dict := some h.objs.size, data := o.data, slots := o.slots } := ?_
    refine hq h' _ ⟨{ cls := o.cls, dict := some h.objs.size, data := o.data, slots := o.slots }, hx', hc, hnc, .inr ⟨h.objs.size, rfl, hxs.symm, ?_⟩⟩ (fun b ob hbx _ hb => ?_)
      (fun o₀ h₀ => by obtain rfl : o = o₀ := Option.some.inj (hx.symm.trans h₀); exact ⟨_, hx', rfl, rfl, rfl, _, rfl, .inl ⟨hdn, Nat.le_refl _⟩⟩)
    · obtain ⟨o', es, ep, e1, e2, e3, eu, e4⟩ := hn'
      exact ⟨o', es, ep, e1, e2, e3, eu, fun y => by rw [e4 y]; by_cases hy : y = name <;> simp [hy, hmA]⟩
    · exact (hs.2 b (Nat.ne_of_lt (Heap.lt_size hb))).trans ((Heap.get?_update_ne _ _ _ _ hbx).trans (Heap.get?_push_of_some _ hb))
    · refine (hs.2 x hxs).trans (Heap.get?_update_self _ hx₁ ?_)
      have hfr := (Heap.get?_some_iff.mp hx).2
      obtain ⟨oc, od, odt, osl⟩ := o
      cases odt <;> first | rfl | exact hfr
  · rw [hdx]
    refine wpAny_pure ?_
    show wpAny _ _ (storeInDict dx (.str name tk) name v) _ _ _
    unfold storeInDict newKeyGuard
    refine wpAny_bind (wpAny_pure (wpAny_bind (wpAny_nsSet1 hns fun h' hn' hs => ?_)))
    obtain ⟨oD, esD, epD, hoD, hdD, hcD⟩ := hn'.count (Within.cons name v hw)
    refine wpAny_bind (wpAny_lookBehind hoD (by rw [hdD]; exact pastItsLine_dict (Nat.le_trans hcD (by rw [List.length_cons]; omega))) ?_)
    wp_walk
    refine hq h' _ ⟨o, (hs.2 x hne.symm).trans hx, hc, hnc, .inr ⟨dx, hdx, hne, hn'⟩⟩ (fun b ob _ hbd hb => ?_)
      (fun o₀ h₀ => by obtain rfl : o = o₀ := Option.some.inj (hx.symm.trans h₀); exact ⟨o, (hs.2 x hne.symm).trans hx, rfl, rfl, rfl, dx, hdx, .inr hdx⟩)
    exact (hs.2 b (hbd o dx hx hdx)).trans hb
end
end Mine
end

noncomputable section
open PySem PySem.W PyProof.Rows PySem.Calls PySem.Spec PySem.SeqAt PySem.Builtin
set_option maxRecDepth 100000
namespace Mine

noncomputable def initB (p : Nat → Pos) : List PySem.Stmt :=
  [.Expr (.Call (.Attribute (.Name "Exception" (p 0)) "__init__" (p 1)) [.Name "self" (p 2), .Name "what" (p 3)] [] (p 4)) (p 5),
   .Assign [.Attribute (.Name "self" (p 6)) "what" (p 7)] (.Name "what" (p 8)) (p 9),
   .Assign [.Attribute (.Name "self" (p 10)) "at" (p 11)] (.Name "at" (p 12)) (p 13)]

structure InitAt (K : Frag) (fI : Addr) (fd : FuncData) (dv : Value) (p : Nat → Pos) : Prop where
  look : ∃ oc od osl, K.lookup fI = some ⟨oc, od, .func fd, osl⟩
  body : fd.body = .stmts (initB p)
  line : ((p 1).endLine == (p 4).line) = true
  code : codeIn K fd.code fd.qualname = true
  clo : fd.closure = []
  glob : fd.globals = mainGlobals
  blt : fd.builtins = builtinsNs
  kind : fd.scope.kind = .function
  gen : fd.scope.isGenerator = false
  co : fd.scope.isCoroutine = false
  b1 : ∀ e v S, peek K S (bindArgs fd ⟨[e, v], []⟩) = some [((("self" : Str)), e), (("what" : Str), v), (("at" : Str), dv)]
  b2 : ∀ e v a S, peek K S (bindArgs fd ⟨[e, v, a], []⟩) = some [((("self" : Str)), e), (("what" : Str), v), (("at" : Str), a)]
  n0 : fd.scope.names.lookup ("self" : Str) = some NameKind.local
  n1 : fd.scope.names.lookup ("what" : Str) = some NameKind.local
  n2 : fd.scope.names.lookup ("at" : Str) = some NameKind.local
  n3 : fd.scope.names.lookup ("Exception" : Str) = some NameKind.globalImplicit
  boot : nsIn K mainGlobals "Exception" = some none
  cls : findCls K (.type "Exception") (.type "type") "__init__" = some (.val (.builtin "Exception.__init__"))
  typ : typeIn K (.ref fI) = some (.type "function")
structure ExcAt (K : Frag) (c : Nat) (fI : Addr) : Prop where
  cls : ∃ nm q N bs sn sub ab col dd k0 k1 k2 k3 k5, K.lookup c = some (excClassObj nm q c N bs bmX true sn sub ab col dd k0 k1 k2 k3 k5 "Exception.__new__")
  init : findIn K (.ref c) "__init__" = some (some (.ref fI))
  what : findIn K (.ref c) "what" = some none
  at_ : findIn K (.ref c) "at" = some none
  set : findIn K (.ref c) "__setattr__" = some (some (.builtin "object.__setattr__"))

section
variable {prog : Program} {K : Frag} {τ : List (Addr × List Value)} {B : Bx} {C : Cx} {lk : LK} {gl : Str → Bool} {A : Around} {E : Value → Shared → Prop} {W : Wd} {st : St} {s : Shared} {n : Nat}

theorem Stt.ebDict {L' : Addr} {o : Obj} {es : Array DictEntry} {ep : Nat} {h' : Heap} {tk : Nat} (T : Stt B C W st s) (hL : s.heap.get? L' = some o) (hd : o.data = .dict es ep) (hb : B.base.get? L' = none) (hl : L' ≠ C.env.locals) (ho : ∀ q ∈ C.ons, q.1 ≠ L') (hq : ∀ q ∈ C.outs, q.1 ≠ L')
    (hr : ∀ a ∈ W.ρ.flatten, a ≠ L') (k : Heap.ExtBut L' s.heap h') : Stt B C W st { s with heap := h', toks := tk } := by
  have ncell : ∀ {c : Addr} {v : Option Value}, s.heap.IsCell c v → c ≠ L' := by
    rintro c v ⟨oa, h1, h2⟩ rfl
    rw [hL] at h1; cases h1; rw [hd] at h2; cases h2
  have ns : ∀ {a : Addr} {m : Str → Option Value}, a ≠ L' → s.heap.Ns a m → h'.Ns a m := fun ha hm => let ⟨oa, es, n, h1, r⟩ := hm; ⟨oa, es, n, k _ _ ha h1, r⟩
  obtain ⟨m, hm, hlc⟩ := T.loc
  refine { gens := T.gens, drawn := T.drawn, os := T.os, stays := fun b ob e => k b ob (fun q => by rw [q, hb] at e; cases e) (T.stays b ob e), loc := ⟨m, ns hl.symm hm, hlc⟩, cel := ?_, outer := ?_, outs := ?_, objs := ?_, tups := ?_, nodup := T.nodup, fresh := T.fresh, here := T.here, hnd := ?_ }
  · intro i x c av e e'
    obtain ⟨v, a, b⟩ := T.cel i x c av e e'
    exact ⟨v, let ⟨oc, h1, h2⟩ := a; ⟨oc, k _ _ (ncell a) h1, h2⟩, b⟩
  · exact fun q hq' => ns (ho q hq') (T.outer q hq')
  · exact fun q hq' => k _ _ (hq q hq') (T.outs q hq')
  · refine ⟨T.objs.len, fun i ob hi => ?_⟩
    obtain ⟨r, hr', x⟩ := T.objs.at_ i ob hi
    exact ⟨r, hr', x.keep fun a ha o e => k a o (hr _ (List.mem_flatten.mpr ⟨r, List.mem_of_getElem? hr', ha⟩)) e⟩
  · intro t ht
    obtain ⟨oa, h1, h2, nn, h3⟩ := T.tups t ht
    refine ⟨oa, k _ _ ?_ h1, h2, nn, h3⟩
    intro e
    rw [e, hL] at h1; cases h1
    rw [hd] at h3; cases h3
  · refine T.hnd.at fun b e ob h => k b ob ?_ h
    rintro rfl
    have hh := T.hnd
    rw [e] at hh
    obtain ⟨ox, vs, h1, h2, _⟩ := hh
    rw [hL] at h1; cases h1; rw [hd] at h2; cases h2

theorem raise_made {c : Nat} {env : Env} {x : Sem Value} {Q : Flow → Shared → Prop} {nm q : Str} {N : Addr} {bs : List Value} {sn : List Str} {sub : List Value} {ab : Bool} {col : Option Bool} {dd : Option Addr} {k0 k1 k2 k3 k5 : Option Value} (hh : A.handled = none)
    (h : wpAny (model prog B.w) A x (fun v s₁ => ∃ e t dx, v = .ref e ∧ s₁.heap.get? c = some (excClassObj nm q c N bs bmX true sn sub ab col dd k0 k1 k2 k3 k5 "Exception.__new__") ∧
      s₁.heap.get? e = some { cls := .ref c, dict := some dx, data := .fields #[.ref t, .none, .none, .none, .bool false, .none] } ∧ E (.ref e) s₁) E s) :
    wpAny (model prog B.w) A (raiseStmt env (some x) none) Q E s := by
  have hcB : (Value.ref c :: bmX).contains (.type "BaseException") = true := by rw [List.contains_cons, bmX_E, Bool.or_true]
  unfold raiseStmt
  refine wpAny_bind (wpAny_mono h (fun v s₁ h₁ => ?_) fun _ _ x => x)
  obtain ⟨e, t, dx, rfl, hC, he, hE⟩ := h₁
  obtain ⟨hp, g, d, tk, os⟩ := s₁
  repeat (first | with_reducible refine wpAny_loadPart_at he ?_ | with_reducible refine wpAny_loadPart_at hC ?_ | (with_reducible refine wpAny_isSubtype_exc hC ?_; rw [hcB]) | wp_step)
  exact wpAny_raiseNew_none hh hE

noncomputable def Cx.ini (C : Cx) (env : Env) (m m' : Str → Option Value) (l : List (Addr × Obj)) : Cx :=
  { env := env, nm := fun _ => none, cl := fun _ => none, ons := (env.locals, m') :: (C.env.locals, m) :: C.ons, outs := l ++ C.outs, envs := env :: C.envs, hnd := C.hnd, ro := true }

noncomputable def excObj (c : Nat) (dx : Option Addr) (t : Addr) : Obj := { cls := .ref c, dict := dx, data := .fields #[.ref t, .none, .none, .none, .bool false, .none] }

theorem ex_setattr (G : Gx K τ B) {c fI : Nat} (XC : ExcAt K c fI) (T : Stt B C W st s) (hh : C.hnd = none) {e t : Addr} {dx : Option Addr} (he : s.heap.get? e = some (excObj c dx t)) (heb : B.base.get? e = none) (heq : ∀ q ∈ C.outs, q.1 ≠ e)
    {mA : Str → Option Value} {ns : List Str} (hI : s.heap.Inst e c mA) (hw : Within mA ns) (hns : ns.length ≤ 10)
    (hdx : ∀ d, dx = some d → B.base.get? d = none ∧ d ≠ C.env.locals ∧ (∀ q ∈ C.ons, q.1 ≠ d) ∧ (∀ q ∈ C.outs, q.1 ≠ d) ∧ (∀ a ∈ W.ρ.flatten, a ≠ d)) {name : Str} {v : Value} (hnf : findIn K (.ref c) name = some none) {Q : Unit → Shared → Prop}
    (h : ∀ s' d, Stt B C W st s' → s'.heap.get? e = some (excObj c (some d) t) → s'.heap.Inst e c (fun y => if y = name then some v else mA y) → (s.heap.objs.size ≤ d ∨ dx = some d) → Q () s') :
    wpAny (model prog B.w) A (setAttr (.ref e) name v) Q E s := by
  obtain ⟨nm, q, N, bs, sn, sub, ab, col, dd, k0, k1, k2, k3, k5, hK⟩ := XC.cls
  have X := G.X.keeps T.stays
  have I : ∃ od, InstAt s.heap e (excObj c dx t) c od := by
    cases dx with
    | none => exact ⟨none, he, rfl, rfl, trivial⟩
    | some d =>
      obtain ⟨o, h1, h2, h3, h4⟩ := hI
      rw [he] at h1; cases h1
      rcases h4 with ⟨q, _⟩ | ⟨d', q1, q2, o', es, ep, q3, _⟩
      · cases q
      · cases q1
        exact ⟨some o', he, rfl, rfl, q3⟩
  obtain ⟨od, I⟩ := I
  refine set_plain X I XC.set ?_
  obtain ⟨hp, g, d, tk, os⟩ := s
  refine ex_store X hK hnf hI (fun h' tk' I' hk hx => ?_) hw (by rw [sizeLine_eq]; omega)
  obtain ⟨o₁, h1, e1, e2, e3, d', e4, e5⟩ := hx _ he
  have ho₁ : o₁ = excObj c (some d') t := by
    obtain ⟨c1, d1, dt1, sl1⟩ := o₁
    dsimp only at e1 e2 e3 e4
    subst e1 e2 e3 e4
    rfl
  rw [ho₁] at h1
  refine h _ d' ?_ h1 I' (e5.elim (fun q => .inl q.2) .inr)
  cases dx with
  | none =>
    refine T.extTwo (tk := tk') hh he rfl heb heq fun b o hb ee => hk b o hb (fun o₀ dx' h₀ hd₀ => ?_) ee
    rw [show hp.get? e = some _ from he] at h₀; cases h₀
    cases hd₀
  | some dv =>
    obtain ⟨b1, b2, b3, b4, b5⟩ := hdx dv rfl
    have e6 : dv = d' := by
      rcases e5 with ⟨q, _⟩ | q
      · cases q
      · cases q; rfl
    subst e6
    obtain ⟨o, q1, q2, q3, q4⟩ := hI
    rw [show ({ heap := hp, gens := g, drawn := d, toks := tk, os := os } : Shared).heap.get? e = some _ from he] at q1; cases q1
    rcases q4 with ⟨q, _⟩ | ⟨d'', r1, r2, o', es, ep, r3, r4, _⟩
    · cases q
    · cases r1
      refine T.ebDict (tk := tk') r3 r4 b1 b2 b3 b4 b5 fun b o hb ee => ?_
      by_cases hbe : b = e
      · rw [hbe] at ee ⊢
        rw [show ({ heap := hp, gens := g, drawn := d, toks := tk, os := os } : Shared).heap.get? e = some _ from he] at ee; cases ee
        exact h1
      · exact hk b o hbe (fun o₀ dx' h₀ hd₀ => by
          rw [show hp.get? e = some _ from he] at h₀; cases h₀; cases hd₀; exact hb) ee
end
end Mine
end

noncomputable section
open PySem PySem.W PyProof.Rows PySem.Calls PySem.Spec PySem.SeqAt PySem.Builtin
set_option maxRecDepth 100000
namespace Mine

section
variable {prog : Program} {K : Frag} {τ : List (Addr × List Value)} {B : Bx} {C : Cx} {lk : LK} {gl : Str → Bool} {A : Around} {E : Value → Shared → Prop} {W : Wd} {st : St} {s : Shared} {n : Nat}

noncomputable def psI : List Str := ["self", "what", "at"]
theorem boot_exc : bootBuiltins "Exception" = some (.type "Exception") := by rfl
noncomputable def esI (p : Nat → Pos) : Es := .cons (.loc "self" 0 (p 2)) (.cons (.loc "what" 1 (p 3)) .nil)
set_option backward.eqns.nonrecursive false in
noncomputable def lkI' : LK := fun i => if i = 0 then some ("self", false) else some ("what", false)

theorem call_methT {env : Env} {lk : LK} {gl : Str → Bool} {o : PySem.Expr} {x : Str} {es : Es} {pa p : Pos} {Q' E' : Value → Shared → Prop} (oe : okEs lk gl es = true) (os : attributeBase o x env (eval o env) = eval o env) (oz : lenEs es < 25) (ol : (pa.endLine == p.line) = true)
    (h : wpAny (model prog B.w) A (eval o env) (fun ov s₁ => ∃ f first, (∀ (Q : Value × List Value → Shared → Prop) (E : Value → Shared → Prop) pl, (∀ tk, Q (f, first) { s₁ with toks := tk }) → wpAny (model prog B.w) A (getMethod ov x pl) Q E s₁) ∧
      ∀ tk, wpAny (model prog B.w) A (callWith p f first (backTo p (starEach (embs es) env)) []) Q' E' { s₁ with toks := tk }) E' s) :
    wpAny (model prog B.w) A (eval (.Call (.Attribute o x pa) (embs es) [] p) env) Q' E' s := by
  rw [arm_eval_Call, os]
  refine wpAny_bind (wpAny_mono h (fun ov s₁ h₁ => wpAny_bind (wpAny_standAt ?_)) fun _ _ x => x)
  obtain ⟨f, first, hm, hc⟩ := h₁
  unfold methodCall
  rw [form_ok oe oz]
  refine wpAny_bind (wpAny_holding (hm _ _ _ fun tk => ?_))
  have hpos : methodCallPos true o env pa p = pure p := by unfold methodCallPos; simp [beq_iff_eq.mp ol]
  exact wpAny_bind (wpAny_of_eq hpos (hc tk))

theorem init_call (G : Gx K τ B) {fI : Addr} {fd : FuncData} {dv : Value} {p : Nat → Pos} (IA : InitAt K fI fd dv p) {c : Nat} (XC : ExcAt K c fI) (Z : CxOk B C lk gl) (hh : C.hnd = none) (hroom : A.depth < recursionLimit) (T : Stt B C W st s) {e t : Addr} (he : s.heap.get? e = some (excObj c none t))
    (heb : B.base.get? e = none) (heq : ∀ q ∈ C.outs, q.1 ≠ e) {w : Value} {rest : List Value} (hr : rest = [] ∨ ∃ a, rest = [a]) {Q : Value → Shared → Prop}
    (h : ∀ s' t' d, Stt B C W st s' → s'.heap.get? e = some (excObj c (some d) t') → Q .none s') : wpAny (model prog B.w) A (call (.ref fI) (.ref e :: w :: rest)) Q E s := by
  obtain ⟨nm, q, N, bs, sn, sub, ab, col, dd, k0, k1, k2, k3, k5, hK⟩ := XC.cls
  obtain ⟨oc, od, osl, look⟩ := IA.look
  have X₀ := G.X.keeps T.stays
  obtain ⟨_, _, mg, mb, TR⟩ := G.T
  have hlim : s.heap.NoLimit := TR.nolimit.keeps T.stays
  obtain ⟨a, hbind⟩ : ∃ a, BindsTo s fd ⟨.ref e :: w :: rest, []⟩ (psI.zip [.ref e, w, a]) := by
    rcases hr with rfl | ⟨a, rfl⟩
    · exact ⟨dv, kp_binds X₀ (IA.b1 _ _)⟩
    · exact ⟨a, kp_binds X₀ (IA.b2 _ _ _)⟩
  refine wpAny_call (codeAny_call_function hroom (X₀ _ _ look) rfl IA.co IA.gen IA.body (codeRec_of X₀ IA.code) (hbind _ _ _ _ ?_))
  rw [IA.clo]
  refine wpAny_newFunctionEnv_cells IA.kind (fun y hy => .inl ?_) fun env hen s₁ x => ?_
  · obtain ⟨hy1, _⟩ := List.of_mem_zip hy
    simp only [psI, List.mem_cons, List.not_mem_nil, or_false] at hy1
    rcases hy1 with h | h | h <;> rw [h]
    · exact IA.n0
    · exact IA.n1
    · exact IA.n2
  have hen' : env = callEnvC fd s.heap.objs.size fI := hen
  subst hen'
  clear hen
  refine ⟨hlim.keeps x.toInCall.keep, codeAny_func ?_⟩
  obtain ⟨m, Hm⟩ := T.hereOf
  obtain ⟨l, Hl⟩ := cells_out T
  obtain ⟨h₁, tk, rfl, keep⟩ := x.done
  obtain ⟨m', hm'⟩ : ∃ m', m' = bindL (callEnvC fd s.heap.objs.size fI).kindOf (psI.zip [.ref e, w, a]) (fun _ => none) := ⟨_, rfl⟩
  have pn : psI.Nodup := by decide
  have v0 : m' "self" = some (.ref e) := by rw [hm']; exact bindL_at _ psI _ _ 0 _ _ pn rfl rfl IA.n0
  have v1 : m' "what" = some w := by rw [hm']; exact bindL_at _ psI _ _ 1 _ _ pn rfl rfl IA.n1
  have v2 : m' "at" = some a := by rw [hm']; exact bindL_at _ psI _ _ 2 _ _ pn rfl rfl IA.n2
  have hns : h₁.Ns s.heap.objs.size m' := by rw [hm']; exact x.toInCall.ns
  obtain ⟨C₁, hC₁⟩ : ∃ C₁ : Cx, C₁ = { env := callEnvC fd s.heap.objs.size fI, nm := fun _ => none, cl := fun _ => none, ons := (C.env.locals, m) :: C.ons, outs := l ++ C.outs, envs := callEnvC fd s.heap.objs.size fI :: C.envs, hnd := C.hnd, ro := false } := ⟨_, rfl⟩
  have T₁ : Stt B C₁ W ⟨[], st.hp⟩ { s with heap := h₁, toks := tk } := by
    subst hC₁
    exact T.enter Hm Hl keep (Nat.le_refl _) rfl rfl rfl hns (fun _ _ _ e => by cases e) (fun _ _ _ _ e => by cases e)
  obtain ⟨Ci, hCi⟩ : ∃ Ci : Cx, Ci = { C₁ with ons := (s.heap.objs.size, m') :: C₁.ons, ro := true } := ⟨_, rfl⟩
  have hloc : C₁.env.locals = s.heap.objs.size := by subst hC₁; rfl
  have T₂ : Stt B Ci W ⟨[], st.hp⟩ { s with heap := h₁, toks := tk } := by
    subst hCi
    exact { T₁ with
      outer := fun q hq => (List.mem_cons.mp hq).elim (fun e => by subst e; exact hns) (T₁.outer q)
      fresh := fun a ha => let ⟨p1, p2, p3, p4⟩ := T₁.fresh a ha; ⟨p1, p2, fun q hq => (List.mem_cons.mp hq).elim (fun e => by subst e; exact hloc ▸ p2.symm) (p3 q), p4⟩
      here := ⟨T₁.here.1, fun q hq => ⟨(fun e => by cases e), (List.mem_cons.mp hq).elim (fun e => by subst e; exact hloc ▸ T₁.here.1) fun h => (T₁.here.2.1 q h).2⟩, T₁.here.2.2⟩ }
  have hE : Ci.env = callEnvC fd s.heap.objs.size fI := by subst hCi hC₁; rfl
  have hH : Ci.hnd = none := by subst hCi hC₁; exact hh
  have hO : Ci.outs = l ++ C.outs := by subst hCi hC₁; rfl
  have hOn : Ci.ons = (s.heap.objs.size, m') :: (C.env.locals, m) :: C.ons := by subst hCi hC₁; rfl
  have back : ∀ {s' : Shared}, Stt B Ci W ⟨[], st.hp⟩ s' → Stt B C W st s' := by
    intro s' T'
    have T'' : Stt B C₁ W ⟨[], st.hp⟩ s' := by
      subst hCi
      exact { T' with outer := fun q hq => T'.outer q (.tail _ hq), fresh := fun a ha => let ⟨p1, p2, p3, p4⟩ := T'.fresh a ha; ⟨p1, p2, fun q hq => p3 q (.tail _ hq), p4⟩, here := T₁.here }
    have := T.leave Hm Hl T'' (.refl W) (by subst hC₁; rfl) (fun q hq => by subst hC₁; exact hq) (by subst hC₁; rfl)
    exact this
  have heq' : ∀ q ∈ Ci.outs, q.1 ≠ e := fun q hq => by
    rw [hO] at hq
    rcases List.mem_append.mp hq with hq | hq
    · rintro rfl
      obtain ⟨q1, v, q2⟩ := Hl.at_ q hq
      have q3 := Option.some.inj (he.symm.trans q1)
      rw [← q3] at q2; cases q2
    · exact heq q hq
  have name : ∀ {s' : Shared} {st' : St} {y : Str} {v : Value} {pos : Pos} {Q : Value → Shared → Prop} {E : Value → Shared → Prop} {A' : Around}, Stt B Ci W st' s' → m' y = some v → fd.scope.names.lookup y = some NameKind.local → (y == ("__debug__" : Str)) = false → Q v s' →
      wpAny (model prog B.w) A' (eval (.Name y pos) (callEnvC fd s.heap.objs.size fI)) Q E s' := fun T' hv hk hd hq =>
    wpAny_Name (wpAny_loadName_local IA.kind hk (T'.outer _ (by rw [hOn]; exact .head _)) hv hq) hd
  have he₁ : h₁.get? e = some (excObj c none t) := keep _ _ he
  -- Exception.__init__(self, what)
  unfold initB
  refine wpAny_execs_cons ?_
  rw [arm_exec_Expr]
  refine wpAny_bind (wpAny_standAt ?_)
  have hint : interactive (callEnvC fd s.heap.objs.size fI) = false := by
    show (fd.scope.kind == .module && _) = false
    rw [IA.kind]; rfl
  rw [hint, if_neg Bool.false_ne_true]
  refine wpAny_bind (wpAny_pure (a := false) ?_)
  rw [if_neg Bool.false_ne_true]
  have ok1 : okEs lkI' (fun _ => false) (esI p) = true := by rfl
  refine wpAny_bind (call_methT (prog := prog) (B := B) (o := .Name "Exception" (p 0)) (x := "__init__") (es := esI p) (pa := p 1) (p := p 4) ok1 (by rfl) (by show 2 < 25; decide) IA.line ?_)
  refine Name_function_global IA.kind IA.n3 (loadGlobal_builtin (by rw [show (callEnvC fd s.heap.objs.size fI).globals = mainGlobals from IA.glob]; exact TR.g.keeps T₂.stays) (mg_none_of G.X TR.g IA.boot) (by rw [show (callEnvC fd s.heap.objs.size fI).builtins = builtinsNs from IA.blt]; exact TR.b.keeps T₂.stays) ((TR.builtins _ (by decide)).trans boot_exc) ?_) (by decide)
  refine ⟨.builtin "Exception.__init__", [], fun Q₂ E₂ pl hq => exc_getinit (G.X.keeps T₂.stays) IA.cls hq, fun tk₁ => ?_⟩
  have T₃ : Stt B Ci W ⟨[], st.hp⟩ { s with heap := h₁, toks := tk₁ } := T₂.tick
  refine callWith_builtin (stars_plain _ _ ok1) (args_ok ok1 ?_)
  refine wpAny_items_cons (name T₃ v0 IA.n0 (by decide) (wpAny_items_cons (name T₃ v1 IA.n1 (by decide) (wpAny_items_nil ?_)) (by rfl))) (by rfl)
  refine ex_init (G.X.keeps T₃.stays _ _ hK) he₁ rfl rfl fun O hO hf => ?_
  have heO : (h₁.push O).get? e = some (excObj c none t) := Heap.get?_push_of_some _ he₁
  have T₄ : Stt B Ci W ⟨[], st.hp⟩ { s with heap := h₁.push O, toks := tk₁ } := T₃.push O
  obtain ⟨h₅, hh₅⟩ : ∃ h₅, h₅ = (h₁.push O).update e (Obj.mapFields (·.setIfInBounds 0 (.ref h₁.objs.size))) := ⟨_, rfl⟩
  have he₅ : h₅.get? e = some (excObj c none h₁.objs.size) := by
    rw [hh₅]
    exact Heap.get?_update_self _ heO rfl
  have T₅ : Stt B Ci W ⟨[], st.hp⟩ { s with heap := h₅, toks := tk₁ } := by
    rw [hh₅]
    exact T₄.extTwo (tk := tk₁) hH heO rfl heb heq' (Heap.SameBut.update ..).extBut
  rw [← hh₅]
  unfold dropValue
  refine wpAny_pure ?_
  -- self.what = what
  refine wpAny_execs_cons (plainObj_wpAny_Assign_Attribute (name T₅ v1 IA.n1 (by decide) (name T₅ v0 IA.n0 (by decide) ?_)))
  have I₅ : ({ s with heap := h₅, toks := tk₁ } : Shared).heap.Inst e c (fun _ => none) := ⟨_, he₅, rfl, (fun _ e => by cases e), .inl ⟨rfl, fun _ => rfl⟩⟩
  refine ex_setattr G XC T₅ hH he₅ heb heq' I₅ Within.nil (by simp) (fun d e => by cases e) XC.what fun s₆ d T₆ he₆ I₆ hd₆ => ?_
  have hd₆ : h₅.objs.size ≤ d := hd₆.elim id fun e => by cases e
  have lt₅ : ∀ {b : Addr} {ob : Obj}, h₅.get? b = some ob → b ≠ d := fun e q => Nat.lt_irrefl _ (Nat.lt_of_lt_of_le (Heap.lt_size e) (q ▸ hd₆))
  -- self.at = at
  refine wpAny_execs_cons (plainObj_wpAny_Assign_Attribute (name T₆ v2 IA.n2 (by decide) (name T₆ v0 IA.n0 (by decide) ?_)))
  refine ex_setattr G XC T₆ hH he₆ heb heq' I₆ (Within.cons _ _ Within.nil) (by simp) (fun d' e => ?_) XC.at_ fun s₇ d' T₇ he₇ I₇ hd₇ => ?_
  · cases e
    refine ⟨?_, ?_, ?_, ?_, ?_⟩
    · cases q : B.base.get? d with
      | none => rfl
      | some ob => exact absurd rfl (lt₅ (T₅.stays _ _ q))
    · obtain ⟨mm, ⟨o, es, ep, ho, _⟩, _⟩ := T₅.loc
      exact (lt₅ ho).symm
    · intro q hq
      obtain ⟨o, es, ep, ho, _⟩ := T₅.outer q hq
      exact lt₅ ho
    · exact fun q hq => lt₅ (T₅.outs q hq)
    · intro a ha
      obtain ⟨o, ho, _⟩ := T₅.rho a ha
      exact lt₅ ho
  · refine wpAny_execs_nil ?_
    exact h _ _ _ (back T₇) he₇
end
end Mine
end

noncomputable section
open PySem PySem.W PyProof.Rows PySem.Calls PySem.Spec PySem.SeqAt PySem.Builtin
set_option maxRecDepth 100000
namespace Mine

structure ExcK (K : Frag) : Prop where
  m : ExcOk K
  c : ∃ fI fd dv p, InitAt K fI fd dv p ∧ ExcAt K 59 fI ∧ ExcAt K 71 fI

section
variable {prog : Program} {K : Frag} {τ : List (Addr × List Value)} {B : Bx} {Φ : Fn} {n : Nat}

theorem ss_rse (G : Gx K τ B) (Y : ExcK K) {x : Str} {c : Nat} {px : Pos} {es : Es} {pc p : Pos} (he : SEs prog τ B Φ n es) : SSt prog τ B Φ n (.rse x c px es pc p) := fun C lk gl A W st s N R Cn X Q' E' Z F ro ok hA hτ T h kf kx => by
  simp only [or16, Bool.and_eq_true, beq_iff_eq, Bool.or_eq_true, decide_eq_true_eq] at ok
  obtain ⟨⟨⟨⟨⟨o1, o2⟩, o3⟩, o4⟩, o5⟩, o6⟩ := ok
  simp only [wr15] at h
  obtain ⟨h0, h⟩ := h
  have hh : C.hnd = none := (hnd_none hA h0).1
  have hA0 : A.handled = none := (hnd_none hA h0).2
  obtain ⟨fI, fd, dv, pp, IA, X59, X71⟩ := Y.c
  have XC : ExcAt K c fI := o4.elim (fun e => e ▸ X59) fun e => e ▸ X71
  obtain ⟨nm, q, N', bs, sn, sub, ab, col, dd, k0, k1, k2, k3, k5, hK⟩ := XC.cls
  show wpAny _ _ (exec (.Raise (some (.Call (.Name x px) (embs es) [] pc)) none p) C.env) _ _ _
  rw [arm_exec_Raise]
  refine wpAny_bind (wpAny_standAt ?_)
  refine raise_made (c := c) (nm := nm) (q := q) (N := N') (bs := bs) (sn := sn) (sub := sub) (ab := ab) (col := col) (dd := dd) (k0 := k0) (k1 := k1) (k2 := k2) (k3 := k3) (k5 := k5) hA0 (wpAny_bind ?_)
  refine Call_Name rfl (load_glob Z G T o1 (G.k.fns x c o2) ?_)
  refine callWith_of (P := fun h => K.In h) (by rw [stars_plain _ _ o3]; rfl) (keeps_K (G.k.keep c (gfn_is o2))) (args_ok o3 (he C lk gl A W st s _ _ _ _ _ Z o3 hA hτ T h (fun W₁ st₁ s₁ l vs l₁ T₁ r₁ e₁ h₁ => ⟨G.X.keeps T₁.stays, ?_⟩) kx))
  have X₁ := G.X.keeps T₁.stays
  obtain ⟨hp, g, d, tk, os⟩ := s₁
  have hvl := r₁.length
  obtain ⟨w, rest, rfl, hrest⟩ : ∃ w rest, vs = w :: rest ∧ (rest = [] ∨ ∃ a, rest = [a]) := by
    match vs, hvl, h₁ with
    | [], hvl, h₁ => simp at hvl; omega
    | [w], _, _ => exact ⟨w, [], rfl, .inl rfl⟩
    | [w, a], _, _ => exact ⟨w, [a], rfl, .inr ⟨a, rfl⟩⟩
    | w :: a :: b :: r, hvl, h₁ => simp at hvl; omega
  have heb : B.base.get? (hp.objs.size + 1) = none := by
    cases q : B.base.get? (hp.objs.size + 1) with
    | none => rfl
    | some o => exact absurd (Heap.lt_size (T₁.stays _ _ q)) (Nat.not_lt.mpr (Nat.le_succ _))
  have heq : ∀ q ∈ C.outs, q.1 ≠ hp.objs.size + 1 := fun q hq => Nat.ne_of_lt (Nat.lt_succ_of_lt (Heap.lt_size (T₁.outs q hq)))
  refine ex_call (rest := w :: rest) X₁ hK XC.init IA.typ ?_ (by rw [sizeLine_eq]; rw [hvl]; omega)
  have hget : ((hp.push { cls := .type "tuple", data := .seq (w :: rest).toArray }).push { cls := .ref c, data := .fields #[.ref hp.objs.size, .none, .none, .none, .bool false, .none] }).get? (hp.objs.size + 1) = some (excObj c none hp.objs.size) := by
    unfold excObj
    heap_get
  have T₂ : Stt B C W₁ st₁ { heap := hp.push { cls := .type "tuple", data := .seq (w :: rest).toArray }, gens := g, drawn := d, toks := tk, os := os } := T₁.push _
  have T₃ : Stt B C W₁ st₁ { heap := (hp.push { cls := .type "tuple", data := .seq (w :: rest).toArray }).push { cls := .ref c, data := .fields #[.ref hp.objs.size, .none, .none, .none, .bool false, .none] }, gens := g, drawn := d, toks := tk, os := os } := T₂.push _
  have hroom : (A.under (.builtin "type.__call__" ⟨.ref c :: w :: rest, []⟩)).depth < recursionLimit := by
    have := hA.depth
    have e : (A.under (.builtin "type.__call__" ⟨.ref c :: w :: rest, []⟩)).depth = A.depth + 1 := rfl
    rw [e]; omega
  refine init_call G IA XC Z hh hroom T₃ hget heb heq hrest fun s' t' dx T' he' => ?_
  refine ⟨rfl, wpAny_bind (wpAny_standAt (wpAny_pure ⟨_, t', dx, rfl, G.X.keeps T'.stays _ _ hK, he', ?_⟩))⟩
  exact kx W₁ st₁ s' c _ l₁ T' ⟨hh, heb, heq, _, _, he', rfl, rfl, rfl, .inl rfl⟩ h₁.2.2
end
end Mine
end

noncomputable section
open PySem PySem.W PyProof.Rows PySem.Calls PySem.Spec PySem.SeqAt PySem.Builtin
set_option maxRecDepth 100000
set_option maxHeartbeats 4000000
namespace Mine

section
variable {prog : Program} {K : Frag} {τ : List (Addr × List Value)} {B : Bx} {Φ : Fn} {n : Nat}

theorem ss_never {t : S} (h : ∀ lk gl, okS lk gl t = true → ∀ hd st N R Cn X, ¬ wpS Φ hd t st N R Cn X) : SSt prog τ B Φ n t := fun C lk gl A W st s N R Cn X Q' E' Z F ro ok hA hτ T hw kf kx => (h _ _ ok _ _ _ _ _ _ hw).elim

mutual
theorem ss_all (G : Gx K τ B) (Y : ExcK K) (F : FnOk prog τ B Φ n) : ∀ t : S, SSt prog τ B Φ n t
  | .raw _ => ss_never fun _ _ _ _ _ _ _ _ _ h => by simp only [wr0] at h
  | .asg _ _ _ e _ => ss_asg (se_all G F e).1
  | .asgC _ _ _ (.com elt _ _ it _ _) _ => ss_asgC G (se_all G F it).1 (se_all G F elt).1
  | .asgC _ _ _ (.raw _) _ => ss_never fun _ _ ok => absurd ok Bool.false_ne_true
  | .asgC _ _ _ (.con ..) _ => ss_never fun _ _ ok => absurd ok Bool.false_ne_true
  | .asgC _ _ _ (.loc ..) _ => ss_never fun _ _ ok => absurd ok Bool.false_ne_true
  | .asgC _ _ _ (.glo ..) _ => ss_never fun _ _ ok => absurd ok Bool.false_ne_true
  | .asgC _ _ _ (.bin ..) _ => ss_never fun _ _ ok => absurd ok Bool.false_ne_true
  | .asgC _ _ _ (.neg ..) _ => ss_never fun _ _ ok => absurd ok Bool.false_ne_true
  | .asgC _ _ _ (.nt ..) _ => ss_never fun _ _ ok => absurd ok Bool.false_ne_true
  | .asgC _ _ _ (.ife ..) _ => ss_never fun _ _ ok => absurd ok Bool.false_ne_true
  | .asgC _ _ _ (.and ..) _ => ss_never fun _ _ ok => absurd ok Bool.false_ne_true
  | .asgC _ _ _ (.or ..) _ => ss_never fun _ _ ok => absurd ok Bool.false_ne_true
  | .asgC _ _ _ (.or3 ..) _ => ss_never fun _ _ ok => absurd ok Bool.false_ne_true
  | .asgC _ _ _ (.cmp ..) _ => ss_never fun _ _ ok => absurd ok Bool.false_ne_true
  | .asgC _ _ _ (.cmp2 ..) _ => ss_never fun _ _ ok => absurd ok Bool.false_ne_true
  | .asgC _ _ _ (.tup ..) _ => ss_never fun _ _ ok => absurd ok Bool.false_ne_true
  | .asgC _ _ _ (.lst ..) _ => ss_never fun _ _ ok => absurd ok Bool.false_ne_true
  | .asgC _ _ _ (.dic0 ..) _ => ss_never fun _ _ ok => absurd ok Bool.false_ne_true
  | .asgC _ _ _ (.dic1 ..) _ => ss_never fun _ _ ok => absurd ok Bool.false_ne_true
  | .asgC _ _ _ (.sub ..) _ => ss_never fun _ _ ok => absurd ok Bool.false_ne_true
  | .asgC _ _ _ (.slLU ..) _ => ss_never fun _ _ ok => absurd ok Bool.false_ne_true
  | .asgC _ _ _ (.slL ..) _ => ss_never fun _ _ ok => absurd ok Bool.false_ne_true
  | .asgC _ _ _ (.slU ..) _ => ss_never fun _ _ ok => absurd ok Bool.false_ne_true
  | .asgC _ _ _ (.att ..) _ => ss_never fun _ _ ok => absurd ok Bool.false_ne_true
  | .asgC _ _ _ (.call ..) _ => ss_never fun _ _ ok => absurd ok Bool.false_ne_true
  | .asgC _ _ _ (.met ..) _ => ss_never fun _ _ ok => absurd ok Bool.false_ne_true
  | .asgC _ _ _ (.blt ..) _ => ss_never fun _ _ ok => absurd ok Bool.false_ne_true
  | .asgC _ _ _ (.app ..) _ => ss_never fun _ _ ok => absurd ok Bool.false_ne_true
  | .asgC _ _ _ (.joi ..) _ => ss_never fun _ _ ok => absurd ok Bool.false_ne_true
  | .asgC _ _ _ (.fnd ..) _ => ss_never fun _ _ ok => absurd ok Bool.false_ne_true
  | .asgC _ _ _ (.dget ..) _ => ss_never fun _ _ ok => absurd ok Bool.false_ne_true
  | .asgC _ _ _ (.comc ..) _ => ss_never fun _ _ ok => absurd ok Bool.false_ne_true
  | .asg2 _ _ _ _ _ _ _ _ e _ => ss_asg2 (se_all G F e).1
  | .asg3 _ _ _ _ _ _ _ _ _ _ _ e _ => ss_asg3 (se_all G F e).1
  | .asgA _ _ _ o _ _ _ _ e _ => ss_asgA G (se_all G F o).1 (se_all G F e).1
  | .ast o _ _ e _ => ss_ast G (se_all G F o).1 (se_all G F e).1
  | .sst o i _ e _ => ss_sst (se_all G F o).1 (se_all G F i).1 (se_all G F e).1
  | .exp e _ => ss_exp (se_all G F e).1
  | .ite t a b _ => ss_ite (se_all G F t).2 (sss_all G Y F a) (sss_all G Y F b)
  | .whl t b _ => ss_whl (se_all G F t).2 (sss_all G Y F b)
  | .for1 _ _ _ it b _ => ss_for1 G (se_all G F it).1 (sss_all G Y F b)
  | .forR _ _ _ _ es _ b _ => ss_forR G (ses_all G F es) (sss_all G Y F b)
  | .for2 _ _ _ _ _ _ _ _ it b _ => ss_for2 G (se_all G F it).1 (sss_all G Y F b)
  | .ret e _ => ss_ret (se_all G F e).1
  | .rse _ _ _ es _ _ => ss_rse G Y (ses_all G F es)
  | .tr b _ _ _ (.cons h hs) _ _ => ss_tr G Y.m (sss_all G Y F b) (sss_cons (ss_all G Y F h) (sss_all G Y F hs))
  | .tr _ _ _ _ .nil _ _ => ss_never fun _ _ ok => absurd ok Bool.false_ne_true
  | .cont _ => ss_cont
  | .ret0 _ => ss_ret0
theorem sss_all (G : Gx K τ B) (Y : ExcK K) (F : FnOk prog τ B Φ n) : ∀ t : Ss, SSs prog τ B Φ n t
  | .nil => sss_nil
  | .cons t r => sss_cons (ss_all G Y F t) (sss_all G Y F r)
end

set_option backward.eqns.nonrecursive false in
noncomputable def iterF (tab : Nat → Option FK) : Nat → Fn
  | 0 => fun _ _ _ _ _ _ => False
  | k + 1 => stepF tab (iterF tab k)

theorem iterF_ok (G : Gx K τ B) (Y : ExcK K) {tab : Nat → Option FK} (TO : TabOk K tab) : ∀ k, FnOkC prog τ B (iterF tab k) k
  | 0 => fun _ _ _ _ _ _ _ _ _ _ _ _ _ _ _ _ h => h.elim
  | k + 1 => step_ok (sss_all G Y (fnOk_of (iterF_ok G Y TO k))) (iterF_ok G Y TO k) G TO
end
end Mine
end

noncomputable section
open PySem PySem.W PyProof.Rows PySem.Calls PySem.Spec
set_option maxRecDepth 100000
namespace Mine
noncomputable def b_lower_code : Ss :=
  .cons (.ret (.ife (.cmp2 (.con (.int 65) 0 ⟨68, 24, 68, 26⟩) .LtE (.loc "code" 0 ⟨68, 30, 68, 34⟩) .LtE (.con (.int 90) 0 ⟨68, 38, 68, 40⟩) ⟨68, 24, 68, 40⟩) (.bin (.loc "code" 0 ⟨68, 11, 68, 15⟩) .Add (.con (.int 32) 0 ⟨68, 18, 68, 20⟩) ⟨68, 11, 68, 20⟩) (.loc "code" 0 ⟨68, 46, 68, 50⟩) ⟨68, 11, 68, 50⟩) ⟨68, 4, 68, 50⟩) <|
  .nil
noncomputable def b_lower : Ss :=
  .cons (.ret (.blt .bytes ⟨70, 11, 70, 16⟩ (.cons (.com (.call "lower_code" 166 ⟨70, 18, 70, 28⟩ (.cons (.loc "code" 0 ⟨70, 29, 70, 33⟩) <| .nil) ⟨70, 18, 70, 34⟩) "code" ⟨70, 39, 70, 43⟩ (.loc "octets" 0 ⟨70, 47, 70, 53⟩) { kind := .function, names := [(".0", .local), ("code", .local), ("lower_code", .globalImplicit)], isGenerator := false, isCoroutine := false } ⟨70, 17, 70, 54⟩) <| .nil) ⟨70, 11, 70, 55⟩) ⟨70, 4, 70, 55⟩) <|
  .nil
noncomputable def b_need_charset : Ss :=
  .cons (.ite (.cmp (.loc "charset" 0 ⟨91, 7, 91, 14⟩) .NotIn (.glo "CHARSETS" 9 ⟨91, 22, 91, 30⟩) ⟨91, 7, 91, 30⟩) (.cons (.rse "MimeFault" 71 ⟨92, 14, 92, 23⟩ (.cons (.con (.str "an unknown charset") 0 ⟨92, 24, 92, 44⟩) <| .nil) ⟨92, 14, 92, 45⟩ ⟨92, 8, 92, 45⟩) <|
  .nil) (.nil) ⟨91, 4, 92, 45⟩) <|
  .nil
noncomputable def b_follower_span : Ss :=
  .cons (.ite (.cmp2 (.con (.int 194) 0 ⟨94, 7, 94, 10⟩) .LtE (.loc "lead" 0 ⟨94, 14, 94, 18⟩) .LtE (.con (.int 223) 0 ⟨94, 22, 94, 25⟩) ⟨94, 7, 94, 25⟩) (.cons (.ret (.tup (.cons (.con (.int 128) 0 ⟨95, 16, 95, 19⟩) <| .cons (.con (.int 191) 0 ⟨95, 21, 95, 24⟩) <| .cons (.con (.int 1) 0 ⟨95, 26, 95, 27⟩) <| .nil) 0 ⟨95, 15, 95, 28⟩) ⟨95, 8, 95, 28⟩) <|
  .nil) (.nil) ⟨94, 4, 95, 28⟩) <|
  .cons (.ite (.cmp2 (.con (.int 224) 0 ⟨96, 7, 96, 10⟩) .LtE (.loc "lead" 0 ⟨96, 14, 96, 18⟩) .LtE (.con (.int 239) 0 ⟨96, 22, 96, 25⟩) ⟨96, 7, 96, 25⟩) (.cons (.ret (.tup (.cons (.dget 224 160 ⟨97, 17, 97, 20⟩ ⟨97, 22, 97, 25⟩ ⟨97, 16, 97, 26⟩ "lead" 0 ⟨97, 31, 97, 35⟩ 128 ⟨97, 37, 97, 40⟩ ⟨97, 16, 97, 30⟩ ⟨97, 16, 97, 41⟩) <| .cons (.dget 237 159 ⟨97, 44, 97, 47⟩ ⟨97, 49, 97, 52⟩ ⟨97, 43, 97, 53⟩ "lead" 0 ⟨97, 58, 97, 62⟩ 191 ⟨97, 64, 97, 67⟩ ⟨97, 43, 97, 57⟩ ⟨97, 43, 97, 68⟩) <| .cons (.con (.int 2) 0 ⟨97, 70, 97, 71⟩) <| .nil) 0 ⟨97, 15, 97, 72⟩) ⟨97, 8, 97, 72⟩) <|
  .nil) (.nil) ⟨96, 4, 97, 72⟩) <|
  .cons (.ite (.cmp2 (.con (.int 240) 0 ⟨98, 7, 98, 10⟩) .LtE (.loc "lead" 0 ⟨98, 14, 98, 18⟩) .LtE (.con (.int 244) 0 ⟨98, 22, 98, 25⟩) ⟨98, 7, 98, 25⟩) (.cons (.ret (.tup (.cons (.dget 240 144 ⟨99, 17, 99, 20⟩ ⟨99, 22, 99, 25⟩ ⟨99, 16, 99, 26⟩ "lead" 0 ⟨99, 31, 99, 35⟩ 128 ⟨99, 37, 99, 40⟩ ⟨99, 16, 99, 30⟩ ⟨99, 16, 99, 41⟩) <| .cons (.dget 244 143 ⟨99, 44, 99, 47⟩ ⟨99, 49, 99, 52⟩ ⟨99, 43, 99, 53⟩ "lead" 0 ⟨99, 58, 99, 62⟩ 191 ⟨99, 64, 99, 67⟩ ⟨99, 43, 99, 57⟩ ⟨99, 43, 99, 68⟩) <| .cons (.con (.int 3) 0 ⟨99, 70, 99, 71⟩) <| .nil) 0 ⟨99, 15, 99, 72⟩) ⟨99, 8, 99, 72⟩) <|
  .nil) (.nil) ⟨98, 4, 99, 72⟩) <|
  .cons (.ret (.tup (.cons (.con (.int 0) 0 ⟨100, 12, 100, 13⟩) <| .cons (.con (.int 0) 0 ⟨100, 15, 100, 16⟩) <| .cons (.con (.int 0) 0 ⟨100, 18, 100, 19⟩) <| .nil) 0 ⟨100, 11, 100, 20⟩) ⟨100, 4, 100, 20⟩) <|
  .nil
noncomputable def b_utf8_sign : Ss :=
  .cons (.asg "lead" 2 ⟨102, 4, 102, 8⟩ (.sub (.loc "octets" 0 ⟨102, 11, 102, 17⟩) (.loc "at" 1 ⟨102, 18, 102, 20⟩) ⟨102, 11, 102, 21⟩) ⟨102, 4, 102, 21⟩) <|
  .cons (.ite (.cmp (.loc "lead" 2 ⟨103, 7, 103, 11⟩) .Lt (.con (.int 128) 0 ⟨103, 14, 103, 17⟩) ⟨103, 7, 103, 17⟩) (.cons (.ret (.tup (.cons (.loc "lead" 2 ⟨104, 16, 104, 20⟩) <| .cons (.con (.int 1) 0 ⟨104, 22, 104, 23⟩) <| .nil) 0 ⟨104, 15, 104, 24⟩) ⟨104, 8, 104, 24⟩) <|
  .nil) (.nil) ⟨103, 4, 104, 24⟩) <|
  .cons (.asg3 "least" 3 ⟨105, 4, 105, 9⟩ "most" 4 ⟨105, 11, 105, 15⟩ "count" 5 ⟨105, 17, 105, 22⟩ 0 ⟨105, 4, 105, 22⟩ (.call "follower_span" 205 ⟨105, 25, 105, 38⟩ (.cons (.loc "lead" 2 ⟨105, 39, 105, 43⟩) <| .nil) ⟨105, 25, 105, 44⟩) ⟨105, 4, 105, 44⟩) <|
  .cons (.ite (.cmp (.loc "count" 5 ⟨106, 7, 106, 12⟩) .Eq (.con (.int 0) 0 ⟨106, 16, 106, 17⟩) ⟨106, 7, 106, 17⟩) (.cons (.ret (.tup (.cons (.neg (.con (.int 1) 0 ⟨107, 17, 107, 18⟩) ⟨107, 16, 107, 18⟩) <| .cons (.con (.int 1) 0 ⟨107, 20, 107, 21⟩) <| .nil) 0 ⟨107, 15, 107, 22⟩) ⟨107, 8, 107, 22⟩) <|
  .nil) (.nil) ⟨106, 4, 107, 22⟩) <|
  .cons (.asg "code" 6 ⟨108, 4, 108, 8⟩ (.bin (.loc "lead" 2 ⟨108, 11, 108, 15⟩) .Mod (.bin (.con (.int 64) 0 ⟨108, 19, 108, 21⟩) .RShift (.loc "count" 5 ⟨108, 25, 108, 30⟩) ⟨108, 19, 108, 30⟩) ⟨108, 11, 108, 31⟩) ⟨108, 4, 108, 31⟩) <|
  .cons (.forR "place" 7 ⟨109, 8, 109, 13⟩ ⟨109, 17, 109, 22⟩ (.cons (.con (.int 1) 0 ⟨109, 23, 109, 24⟩) <| .cons (.bin (.loc "count" 5 ⟨109, 26, 109, 31⟩) .Add (.con (.int 1) 0 ⟨109, 34, 109, 35⟩) ⟨109, 26, 109, 35⟩) <| .nil) ⟨109, 17, 109, 36⟩ (.cons (.ite (.or (.cmp (.bin (.loc "at" 1 ⟨110, 11, 110, 13⟩) .Add (.loc "place" 7 ⟨110, 16, 110, 21⟩) ⟨110, 11, 110, 21⟩) .GtE (.blt .len ⟨110, 25, 110, 28⟩ (.cons (.loc "octets" 0 ⟨110, 29, 110, 35⟩) <| .nil) ⟨110, 25, 110, 36⟩) ⟨110, 11, 110, 36⟩) (.nt (.cmp2 (.loc "least" 3 ⟨110, 44, 110, 49⟩) .LtE (.sub (.loc "octets" 0 ⟨110, 53, 110, 59⟩) (.bin (.loc "at" 1 ⟨110, 60, 110, 62⟩) .Add (.loc "place" 7 ⟨110, 65, 110, 70⟩) ⟨110, 60, 110, 70⟩) ⟨110, 53, 110, 71⟩) .LtE (.loc "most" 4 ⟨110, 75, 110, 79⟩) ⟨110, 44, 110, 79⟩) ⟨110, 40, 110, 79⟩) ⟨110, 11, 110, 79⟩) (.cons (.ret (.tup (.cons (.neg (.con (.int 1) 0 ⟨111, 21, 111, 22⟩) ⟨111, 20, 111, 22⟩) <| .cons (.loc "place" 7 ⟨111, 24, 111, 29⟩) <| .nil) 0 ⟨111, 19, 111, 30⟩) ⟨111, 12, 111, 30⟩) <|
  .nil) (.nil) ⟨110, 8, 111, 30⟩) <|
  .cons (.asg "code" 6 ⟨112, 8, 112, 12⟩ (.bin (.bin (.loc "code" 6 ⟨112, 15, 112, 19⟩) .Mult (.con (.int 64) 0 ⟨112, 22, 112, 24⟩) ⟨112, 15, 112, 24⟩) .Add (.bin (.sub (.loc "octets" 0 ⟨112, 27, 112, 33⟩) (.bin (.loc "at" 1 ⟨112, 34, 112, 36⟩) .Add (.loc "place" 7 ⟨112, 39, 112, 44⟩) ⟨112, 34, 112, 44⟩) ⟨112, 27, 112, 45⟩) .Mod (.con (.int 64) 0 ⟨112, 48, 112, 50⟩) ⟨112, 27, 112, 50⟩) ⟨112, 15, 112, 50⟩) ⟨112, 8, 112, 50⟩) <|
  .cons (.asg2 "least" 3 ⟨113, 8, 113, 13⟩ "most" 4 ⟨113, 15, 113, 19⟩ 0 ⟨113, 8, 113, 19⟩ (.tup (.cons (.con (.int 128) 0 ⟨113, 23, 113, 26⟩) <| .cons (.con (.int 191) 0 ⟨113, 28, 113, 31⟩) <| .nil) 0 ⟨113, 22, 113, 32⟩) ⟨113, 8, 113, 32⟩) <|
  .nil) ⟨109, 4, 113, 32⟩) <|
  .cons (.ret (.tup (.cons (.loc "code" 6 ⟨114, 12, 114, 16⟩) <| .cons (.bin (.loc "count" 5 ⟨114, 18, 114, 23⟩) .Add (.con (.int 1) 0 ⟨114, 26, 114, 27⟩) ⟨114, 18, 114, 27⟩) <| .nil) 0 ⟨114, 11, 114, 28⟩) ⟨114, 4, 114, 28⟩) <|
  .nil
noncomputable def b_sign_at : Ss :=
  .cons (.ite (.cmp (.loc "charset" 0 ⟨116, 7, 116, 14⟩) .Eq (.glo "UTF8" 8 ⟨116, 18, 116, 22⟩) ⟨116, 7, 116, 22⟩) (.cons (.ret (.call "utf8_sign" 212 ⟨117, 15, 117, 24⟩ (.cons (.loc "octets" 1 ⟨117, 25, 117, 31⟩) <| .cons (.loc "at" 2 ⟨117, 33, 117, 35⟩) <| .nil) ⟨117, 15, 117, 36⟩) ⟨117, 8, 117, 36⟩) <|
  .nil) (.nil) ⟨116, 4, 117, 36⟩) <|
  .cons (.ite (.and (.cmp (.loc "charset" 0 ⟨118, 7, 118, 14⟩) .Eq (.glo "ASCII" 6 ⟨118, 18, 118, 23⟩) ⟨118, 7, 118, 23⟩) (.cmp (.sub (.loc "octets" 1 ⟨118, 28, 118, 34⟩) (.loc "at" 2 ⟨118, 35, 118, 37⟩) ⟨118, 28, 118, 38⟩) .Gt (.con (.int 127) 0 ⟨118, 41, 118, 44⟩) ⟨118, 28, 118, 44⟩) ⟨118, 7, 118, 44⟩) (.cons (.ret (.tup (.cons (.neg (.con (.int 1) 0 ⟨119, 17, 119, 18⟩) ⟨119, 16, 119, 18⟩) <| .cons (.con (.int 1) 0 ⟨119, 20, 119, 21⟩) <| .nil) 0 ⟨119, 15, 119, 22⟩) ⟨119, 8, 119, 22⟩) <|
  .nil) (.nil) ⟨118, 4, 119, 22⟩) <|
  .cons (.ret (.tup (.cons (.sub (.loc "octets" 1 ⟨120, 12, 120, 18⟩) (.loc "at" 2 ⟨120, 19, 120, 21⟩) ⟨120, 12, 120, 22⟩) <| .cons (.con (.int 1) 0 ⟨120, 24, 120, 25⟩) <| .nil) 0 ⟨120, 11, 120, 26⟩) ⟨120, 4, 120, 26⟩) <|
  .nil
noncomputable def b_text_in : Ss :=
  .cons (.exp (.call "need_charset" 198 ⟨122, 4, 122, 16⟩ (.cons (.loc "charset" 0 ⟨122, 17, 122, 24⟩) <| .nil) ⟨122, 4, 122, 25⟩) ⟨122, 4, 122, 25⟩) <|
  .cons (.asg "signs" 2 ⟨123, 4, 123, 9⟩ (.lst (.nil) ⟨123, 12, 123, 14⟩) ⟨123, 4, 123, 14⟩) <|
  .cons (.asg "at" 3 ⟨124, 4, 124, 6⟩ (.con (.int 0) 0 ⟨124, 9, 124, 10⟩) ⟨124, 4, 124, 10⟩) <|
  .cons (.whl (.cmp (.loc "at" 3 ⟨125, 10, 125, 12⟩) .Lt (.blt .len ⟨125, 15, 125, 18⟩ (.cons (.loc "octets" 1 ⟨125, 19, 125, 25⟩) <| .nil) ⟨125, 15, 125, 26⟩) ⟨125, 10, 125, 26⟩) (.cons (.asg2 "code" 4 ⟨126, 8, 126, 12⟩ "length" 5 ⟨126, 14, 126, 20⟩ 0 ⟨126, 8, 126, 20⟩ (.call "sign_at" 219 ⟨126, 23, 126, 30⟩ (.cons (.loc "charset" 0 ⟨126, 31, 126, 38⟩) <| .cons (.loc "octets" 1 ⟨126, 40, 126, 46⟩) <| .cons (.loc "at" 3 ⟨126, 48, 126, 50⟩) <| .nil) ⟨126, 23, 126, 51⟩) ⟨126, 8, 126, 51⟩) <|
  .cons (.exp (.app (.loc "signs" 2 ⟨127, 8, 127, 13⟩) (.ife (.cmp (.loc "code" 4 ⟨127, 34, 127, 38⟩) .GtE (.con (.int 0) 0 ⟨127, 42, 127, 43⟩) ⟨127, 34, 127, 43⟩) (.blt .chr ⟨127, 21, 127, 24⟩ (.cons (.loc "code" 4 ⟨127, 25, 127, 29⟩) <| .nil) ⟨127, 21, 127, 30⟩) (.glo "UNKNOWN_SIGN" 10 ⟨127, 49, 127, 61⟩) ⟨127, 21, 127, 61⟩) ⟨127, 8, 127, 20⟩ ⟨127, 8, 127, 62⟩) ⟨127, 8, 127, 62⟩) <|
  .cons (.asg "at" 3 ⟨128, 8, 128, 10⟩ (.bin (.loc "at" 3 ⟨128, 13, 128, 15⟩) .Add (.loc "length" 5 ⟨128, 18, 128, 24⟩) ⟨128, 13, 128, 24⟩) ⟨128, 8, 128, 24⟩) <|
  .nil) ⟨125, 4, 128, 24⟩) <|
  .cons (.ret (.joi (.con (.str "") 0 ⟨129, 11, 129, 13⟩) (.loc "signs" 2 ⟨129, 19, 129, 24⟩) ⟨129, 11, 129, 18⟩ ⟨129, 11, 129, 25⟩) ⟨129, 4, 129, 25⟩) <|
  .nil
noncomputable def b_strict_text : Ss :=
  .cons (.exp (.call "need_charset" 198 ⟨131, 4, 131, 16⟩ (.cons (.loc "charset" 0 ⟨131, 17, 131, 24⟩) <| .nil) ⟨131, 4, 131, 25⟩) ⟨131, 4, 131, 25⟩) <|
  .cons (.asg "signs" 2 ⟨132, 4, 132, 9⟩ (.lst (.nil) ⟨132, 12, 132, 14⟩) ⟨132, 4, 132, 14⟩) <|
  .cons (.asg "at" 3 ⟨133, 4, 133, 6⟩ (.con (.int 0) 0 ⟨133, 9, 133, 10⟩) ⟨133, 4, 133, 10⟩) <|
  .cons (.whl (.cmp (.loc "at" 3 ⟨134, 10, 134, 12⟩) .Lt (.blt .len ⟨134, 15, 134, 18⟩ (.cons (.loc "octets" 1 ⟨134, 19, 134, 25⟩) <| .nil) ⟨134, 15, 134, 26⟩) ⟨134, 10, 134, 26⟩) (.cons (.asg2 "code" 4 ⟨135, 8, 135, 12⟩ "length" 5 ⟨135, 14, 135, 20⟩ 0 ⟨135, 8, 135, 20⟩ (.call "sign_at" 219 ⟨135, 23, 135, 30⟩ (.cons (.loc "charset" 0 ⟨135, 31, 135, 38⟩) <| .cons (.loc "octets" 1 ⟨135, 40, 135, 46⟩) <| .cons (.loc "at" 3 ⟨135, 48, 135, 50⟩) <| .nil) ⟨135, 23, 135, 51⟩) ⟨135, 8, 135, 51⟩) <|
  .cons (.ite (.cmp (.loc "code" 4 ⟨136, 11, 136, 15⟩) .Lt (.con (.int 0) 0 ⟨136, 18, 136, 19⟩) ⟨136, 11, 136, 19⟩) (.cons (.rse "MimeFault" 71 ⟨137, 18, 137, 27⟩ (.cons (.bin (.con (.str "octets that are no sign of ") 0 ⟨137, 28, 137, 57⟩) .Add (.loc "charset" 0 ⟨137, 60, 137, 67⟩) ⟨137, 28, 137, 67⟩) <| .cons (.loc "at" 3 ⟨137, 69, 137, 71⟩) <| .nil) ⟨137, 18, 137, 72⟩ ⟨137, 12, 137, 72⟩) <|
  .nil) (.nil) ⟨136, 8, 137, 72⟩) <|
  .cons (.exp (.app (.loc "signs" 2 ⟨138, 8, 138, 13⟩) (.blt .chr ⟨138, 21, 138, 24⟩ (.cons (.loc "code" 4 ⟨138, 25, 138, 29⟩) <| .nil) ⟨138, 21, 138, 30⟩) ⟨138, 8, 138, 20⟩ ⟨138, 8, 138, 31⟩) ⟨138, 8, 138, 31⟩) <|
  .cons (.asg "at" 3 ⟨139, 8, 139, 10⟩ (.bin (.loc "at" 3 ⟨139, 13, 139, 15⟩) .Add (.loc "length" 5 ⟨139, 18, 139, 24⟩) ⟨139, 13, 139, 24⟩) ⟨139, 8, 139, 24⟩) <|
  .nil) ⟨134, 4, 139, 24⟩) <|
  .cons (.ret (.joi (.con (.str "") 0 ⟨140, 11, 140, 13⟩) (.loc "signs" 2 ⟨140, 19, 140, 24⟩) ⟨140, 11, 140, 18⟩ ⟨140, 11, 140, 25⟩) ⟨140, 4, 140, 25⟩) <|
  .nil
noncomputable def b_guessed_text : Ss :=
  .cons (.tr (.cons (.ret (.call "strict_text" 233 ⟨143, 15, 143, 26⟩ (.cons (.glo "UTF8" 8 ⟨143, 27, 143, 31⟩) <| .cons (.loc "octets" 0 ⟨143, 33, 143, 39⟩) <| .nil) ⟨143, 15, 143, 40⟩) ⟨143, 8, 143, 40⟩) <|
  .nil) "MimeFault" 71 ⟨144, 11, 144, 20⟩ (.cons (.ret (.call "text_in" 226 ⟨145, 15, 145, 22⟩ (.cons (.glo "LATIN" 7 ⟨145, 23, 145, 28⟩) <| .cons (.loc "octets" 0 ⟨145, 30, 145, 36⟩) <| .nil) ⟨145, 15, 145, 37⟩) ⟨145, 8, 145, 37⟩) <|
  .nil) ⟨144, 4, 145, 37⟩ ⟨142, 4, 145, 37⟩) <|
  .nil
noncomputable def b_line_end : Ss :=
  .cons (.ite (.cmp (.slLU (.loc "data" 0 ⟨150, 7, 150, 11⟩) (.loc "at" 1 ⟨150, 12, 150, 14⟩) (.bin (.loc "at" 1 ⟨150, 15, 150, 17⟩) .Add (.con (.int 1) 0 ⟨150, 20, 150, 21⟩) ⟨150, 15, 150, 21⟩) ⟨150, 12, 150, 21⟩ ⟨150, 7, 150, 22⟩) .Eq (.con (.bytes [10]) 0 ⟨150, 26, 150, 31⟩) ⟨150, 7, 150, 31⟩) (.cons (.ret (.bin (.loc "at" 1 ⟨151, 15, 151, 17⟩) .Add (.con (.int 1) 0 ⟨151, 20, 151, 21⟩) ⟨151, 15, 151, 21⟩) ⟨151, 8, 151, 21⟩) <|
  .nil) (.nil) ⟨150, 4, 151, 21⟩) <|
  .cons (.ret (.ife (.cmp (.slLU (.loc "data" 0 ⟨152, 21, 152, 25⟩) (.loc "at" 1 ⟨152, 26, 152, 28⟩) (.bin (.loc "at" 1 ⟨152, 29, 152, 31⟩) .Add (.con (.int 2) 0 ⟨152, 34, 152, 35⟩) ⟨152, 29, 152, 35⟩) ⟨152, 26, 152, 35⟩ ⟨152, 21, 152, 36⟩) .Eq (.con (.bytes [13, 10]) 0 ⟨152, 40, 152, 47⟩) ⟨152, 21, 152, 47⟩) (.bin (.loc "at" 1 ⟨152, 11, 152, 13⟩) .Add (.con (.int 2) 0 ⟨152, 16, 152, 17⟩) ⟨152, 11, 152, 17⟩) (.neg (.con (.int 1) 0 ⟨152, 54, 152, 55⟩) ⟨152, 53, 152, 55⟩) ⟨152, 11, 152, 55⟩) ⟨152, 4, 152, 55⟩) <|
  .nil
noncomputable def b_inside_at : Ss :=
  .cons (.ite (.or (.cmp (.loc "at" 1 ⟨154, 7, 154, 9⟩) .GtE (.blt .len ⟨154, 13, 154, 16⟩ (.cons (.loc "data" 0 ⟨154, 17, 154, 21⟩) <| .nil) ⟨154, 13, 154, 22⟩) ⟨154, 7, 154, 22⟩) (.and (.cmp (.sub (.loc "data" 0 ⟨154, 27, 154, 31⟩) (.loc "at" 1 ⟨154, 32, 154, 34⟩) ⟨154, 27, 154, 35⟩) .Eq (.con (.int 92) 0 ⟨154, 39, 154, 41⟩) ⟨154, 27, 154, 41⟩) (.cmp (.bin (.loc "at" 1 ⟨154, 46, 154, 48⟩) .Add (.con (.int 1) 0 ⟨154, 51, 154, 52⟩) ⟨154, 46, 154, 52⟩) .Eq (.blt .len ⟨154, 56, 154, 59⟩ (.cons (.loc "data" 0 ⟨154, 60, 154, 64⟩) <| .nil) ⟨154, 56, 154, 65⟩) ⟨154, 46, 154, 65⟩) ⟨154, 27, 154, 65⟩) ⟨154, 7, 154, 66⟩) (.cons (.rse "WordFault" 59 ⟨155, 14, 155, 23⟩ (.cons (.con (.str "something is never closed") 0 ⟨155, 24, 155, 51⟩) <| .cons (.loc "begun" 2 ⟨155, 53, 155, 58⟩) <| .nil) ⟨155, 14, 155, 59⟩ ⟨155, 8, 155, 59⟩) <|
  .nil) (.nil) ⟨154, 4, 155, 59⟩) <|
  .cons (.ite (.cmp (.sub (.loc "data" 0 ⟨156, 7, 156, 11⟩) (.loc "at" 1 ⟨156, 12, 156, 14⟩) ⟨156, 7, 156, 15⟩) .Eq (.con (.int 92) 0 ⟨156, 19, 156, 21⟩) ⟨156, 7, 156, 21⟩) (.cons (.ite (.cmp (.sub (.loc "data" 0 ⟨157, 11, 157, 15⟩) (.bin (.loc "at" 1 ⟨157, 16, 157, 18⟩) .Add (.con (.int 1) 0 ⟨157, 21, 157, 22⟩) ⟨157, 16, 157, 22⟩) ⟨157, 11, 157, 23⟩) .In (.glo "NEVER_ESCAPED" 12 ⟨157, 27, 157, 40⟩) ⟨157, 11, 157, 40⟩) (.cons (.rse "WordFault" 59 ⟨158, 18, 158, 27⟩ (.cons (.con (.str "a sign that cannot be escaped") 0 ⟨158, 28, 158, 59⟩) <| .cons (.loc "at" 1 ⟨158, 61, 158, 63⟩) <| .nil) ⟨158, 18, 158, 64⟩ ⟨158, 12, 158, 64⟩) <|
  .nil) (.nil) ⟨157, 8, 158, 64⟩) <|
  .cons (.ret (.tup (.cons (.slLU (.loc "data" 0 ⟨159, 16, 159, 20⟩) (.bin (.loc "at" 1 ⟨159, 21, 159, 23⟩) .Add (.con (.int 1) 0 ⟨159, 26, 159, 27⟩) ⟨159, 21, 159, 27⟩) (.bin (.loc "at" 1 ⟨159, 28, 159, 30⟩) .Add (.con (.int 2) 0 ⟨159, 33, 159, 34⟩) ⟨159, 28, 159, 34⟩) ⟨159, 21, 159, 34⟩ ⟨159, 16, 159, 35⟩) <| .cons (.bin (.loc "at" 1 ⟨159, 37, 159, 39⟩) .Add (.con (.int 2) 0 ⟨159, 42, 159, 43⟩) ⟨159, 37, 159, 43⟩) <| .nil) 0 ⟨159, 15, 159, 44⟩) ⟨159, 8, 159, 44⟩) <|
  .nil) (.nil) ⟨156, 4, 159, 44⟩) <|
  .cons (.asg "behind" 3 ⟨160, 4, 160, 10⟩ (.call "line_end" 248 ⟨160, 13, 160, 21⟩ (.cons (.loc "data" 0 ⟨160, 22, 160, 26⟩) <| .cons (.loc "at" 1 ⟨160, 28, 160, 30⟩) <| .nil) ⟨160, 13, 160, 31⟩) ⟨160, 4, 160, 31⟩) <|
  .cons (.ite (.cmp (.loc "behind" 3 ⟨161, 7, 161, 13⟩) .GtE (.con (.int 0) 0 ⟨161, 17, 161, 18⟩) ⟨161, 7, 161, 18⟩) (.cons (.ret (.tup (.cons (.con (.bytes []) 0 ⟨162, 16, 162, 19⟩) <| .cons (.loc "behind" 3 ⟨162, 21, 162, 27⟩) <| .nil) 0 ⟨162, 15, 162, 28⟩) ⟨162, 8, 162, 28⟩) <|
  .nil) (.nil) ⟨161, 4, 162, 28⟩) <|
  .cons (.ite (.cmp (.sub (.loc "data" 0 ⟨163, 7, 163, 11⟩) (.loc "at" 1 ⟨163, 12, 163, 14⟩) ⟨163, 7, 163, 15⟩) .In (.glo "NEVER_ESCAPED" 12 ⟨163, 19, 163, 32⟩) ⟨163, 7, 163, 32⟩) (.cons (.rse "WordFault" 59 ⟨164, 14, 164, 23⟩ (.cons (.con (.str "a sign that cannot stand") 0 ⟨164, 24, 164, 50⟩) <| .cons (.loc "at" 1 ⟨164, 52, 164, 54⟩) <| .nil) ⟨164, 14, 164, 55⟩ ⟨164, 8, 164, 55⟩) <|
  .nil) (.nil) ⟨163, 4, 164, 55⟩) <|
  .cons (.ret (.tup (.cons (.slLU (.loc "data" 0 ⟨165, 12, 165, 16⟩) (.loc "at" 1 ⟨165, 17, 165, 19⟩) (.bin (.loc "at" 1 ⟨165, 20, 165, 22⟩) .Add (.con (.int 1) 0 ⟨165, 25, 165, 26⟩) ⟨165, 20, 165, 26⟩) ⟨165, 17, 165, 26⟩ ⟨165, 12, 165, 27⟩) <| .cons (.bin (.loc "at" 1 ⟨165, 29, 165, 31⟩) .Add (.con (.int 1) 0 ⟨165, 34, 165, 35⟩) ⟨165, 29, 165, 35⟩) <| .nil) 0 ⟨165, 11, 165, 36⟩) ⟨165, 4, 165, 36⟩) <|
  .nil
noncomputable def b_closed_at : Ss :=
  .cons (.asg "parts" 4 ⟨167, 4, 167, 9⟩ (.lst (.nil) ⟨167, 12, 167, 14⟩) ⟨167, 4, 167, 14⟩) <|
  .cons (.asg "at" 5 ⟨168, 4, 168, 6⟩ (.bin (.loc "begun" 1 ⟨168, 9, 168, 14⟩) .Add (.con (.int 1) 0 ⟨168, 17, 168, 18⟩) ⟨168, 9, 168, 18⟩) ⟨168, 4, 168, 18⟩) <|
  .cons (.whl (.cmp (.slLU (.loc "data" 0 ⟨169, 10, 169, 14⟩) (.loc "at" 5 ⟨169, 15, 169, 17⟩) (.bin (.loc "at" 5 ⟨169, 18, 169, 20⟩) .Add (.con (.int 1) 0 ⟨169, 23, 169, 24⟩) ⟨169, 18, 169, 24⟩) ⟨169, 15, 169, 24⟩ ⟨169, 10, 169, 25⟩) .NotEq (.loc "closing" 2 ⟨169, 29, 169, 36⟩) ⟨169, 10, 169, 36⟩) (.cons (.ite (.and (.cmp (.loc "at" 5 ⟨170, 11, 170, 13⟩) .Lt (.blt .len ⟨170, 16, 170, 19⟩ (.cons (.loc "data" 0 ⟨170, 20, 170, 24⟩) <| .nil) ⟨170, 16, 170, 25⟩) ⟨170, 11, 170, 25⟩) (.cmp (.sub (.loc "data" 0 ⟨170, 30, 170, 34⟩) (.loc "at" 5 ⟨170, 35, 170, 37⟩) ⟨170, 30, 170, 38⟩) .In (.loc "barred" 3 ⟨170, 42, 170, 48⟩) ⟨170, 30, 170, 48⟩) ⟨170, 11, 170, 48⟩) (.cons (.rse "WordFault" 59 ⟨171, 18, 171, 27⟩ (.cons (.con (.str "a bracket within brackets") 0 ⟨171, 28, 171, 55⟩) <| .cons (.loc "at" 5 ⟨171, 57, 171, 59⟩) <| .nil) ⟨171, 18, 171, 60⟩ ⟨171, 12, 171, 60⟩) <|
  .nil) (.nil) ⟨170, 8, 171, 60⟩) <|
  .cons (.asg2 "octets" 6 ⟨172, 8, 172, 14⟩ "at" 5 ⟨172, 16, 172, 18⟩ 0 ⟨172, 8, 172, 18⟩ (.call "inside_at" 255 ⟨172, 21, 172, 30⟩ (.cons (.loc "data" 0 ⟨172, 31, 172, 35⟩) <| .cons (.loc "at" 5 ⟨172, 37, 172, 39⟩) <| .cons (.loc "begun" 1 ⟨172, 41, 172, 46⟩) <| .nil) ⟨172, 21, 172, 47⟩) ⟨172, 8, 172, 47⟩) <|
  .cons (.exp (.app (.loc "parts" 4 ⟨173, 8, 173, 13⟩) (.loc "octets" 6 ⟨173, 21, 173, 27⟩) ⟨173, 8, 173, 20⟩ ⟨173, 8, 173, 28⟩) ⟨173, 8, 173, 28⟩) <|
  .nil) ⟨169, 4, 173, 28⟩) <|
  .cons (.ret (.tup (.cons (.joi (.con (.bytes []) 0 ⟨174, 12, 174, 15⟩) (.loc "parts" 4 ⟨174, 21, 174, 26⟩) ⟨174, 12, 174, 20⟩ ⟨174, 12, 174, 27⟩) <| .cons (.bin (.loc "at" 5 ⟨174, 29, 174, 31⟩) .Add (.con (.int 1) 0 ⟨174, 34, 174, 35⟩) ⟨174, 29, 174, 35⟩) <| .nil) 0 ⟨174, 11, 174, 36⟩) ⟨174, 4, 174, 36⟩) <|
  .nil
noncomputable def b_comment_at : Ss :=
  .cons (.asg "parts" 2 ⟨176, 4, 176, 9⟩ (.lst (.nil) ⟨176, 12, 176, 14⟩) ⟨176, 4, 176, 14⟩) <|
  .cons (.asg "depth" 3 ⟨177, 4, 177, 9⟩ (.con (.int 1) 0 ⟨177, 12, 177, 13⟩) ⟨177, 4, 177, 13⟩) <|
  .cons (.asg "at" 4 ⟨178, 4, 178, 6⟩ (.bin (.loc "begun" 1 ⟨178, 9, 178, 14⟩) .Add (.con (.int 1) 0 ⟨178, 17, 178, 18⟩) ⟨178, 9, 178, 18⟩) ⟨178, 4, 178, 18⟩) <|
  .cons (.whl (.cmp (.loc "depth" 3 ⟨179, 10, 179, 15⟩) .Gt (.con (.int 0) 0 ⟨179, 18, 179, 19⟩) ⟨179, 10, 179, 19⟩) (.cons (.asg "sign" 5 ⟨180, 8, 180, 12⟩ (.slLU (.loc "data" 0 ⟨180, 15, 180, 19⟩) (.loc "at" 4 ⟨180, 20, 180, 22⟩) (.bin (.loc "at" 4 ⟨180, 23, 180, 25⟩) .Add (.con (.int 1) 0 ⟨180, 28, 180, 29⟩) ⟨180, 23, 180, 29⟩) ⟨180, 20, 180, 29⟩ ⟨180, 15, 180, 30⟩) ⟨180, 8, 180, 30⟩) <|
  .cons (.ite (.cmp (.loc "sign" 5 ⟨181, 11, 181, 15⟩) .Eq (.con (.bytes [40]) 0 ⟨181, 19, 181, 23⟩) ⟨181, 11, 181, 23⟩) (.cons (.asg "depth" 3 ⟨182, 12, 182, 17⟩ (.bin (.loc "depth" 3 ⟨182, 20, 182, 25⟩) .Add (.con (.int 1) 0 ⟨182, 28, 182, 29⟩) ⟨182, 20, 182, 29⟩) ⟨182, 12, 182, 29⟩) <|
  .cons (.ite (.cmp (.loc "depth" 3 ⟨183, 15, 183, 20⟩) .Gt (.glo "MOST_DEPTH" 11 ⟨183, 23, 183, 33⟩) ⟨183, 15, 183, 33⟩) (.cons (.rse "WordFault" 59 ⟨184, 22, 184, 31⟩ (.cons (.con (.str "comments too deep") 0 ⟨184, 32, 184, 51⟩) <| .cons (.loc "at" 4 ⟨184, 53, 184, 55⟩) <| .nil) ⟨184, 22, 184, 56⟩ ⟨184, 16, 184, 56⟩) <|
  .nil) (.nil) ⟨183, 12, 184, 56⟩) <|
  .nil) (.cons (.ite (.cmp (.loc "sign" 5 ⟨185, 13, 185, 17⟩) .Eq (.con (.bytes [41]) 0 ⟨185, 21, 185, 25⟩) ⟨185, 13, 185, 25⟩) (.cons (.asg "depth" 3 ⟨186, 12, 186, 17⟩ (.bin (.loc "depth" 3 ⟨186, 20, 186, 25⟩) .Sub (.con (.int 1) 0 ⟨186, 28, 186, 29⟩) ⟨186, 20, 186, 29⟩) ⟨186, 12, 186, 29⟩) <|
  .nil) (.nil) ⟨185, 8, 186, 29⟩) <|
  .nil) ⟨181, 8, 186, 29⟩) <|
  .cons (.asg2 "octets" 6 ⟨187, 8, 187, 14⟩ "at" 4 ⟨187, 16, 187, 18⟩ 0 ⟨187, 8, 187, 18⟩ (.call "inside_at" 255 ⟨187, 21, 187, 30⟩ (.cons (.loc "data" 0 ⟨187, 31, 187, 35⟩) <| .cons (.loc "at" 4 ⟨187, 37, 187, 39⟩) <| .cons (.loc "begun" 1 ⟨187, 41, 187, 46⟩) <| .nil) ⟨187, 21, 187, 47⟩) ⟨187, 8, 187, 47⟩) <|
  .cons (.exp (.app (.loc "parts" 2 ⟨188, 8, 188, 13⟩) (.loc "octets" 6 ⟨188, 21, 188, 27⟩) ⟨188, 8, 188, 20⟩ ⟨188, 8, 188, 28⟩) ⟨188, 8, 188, 28⟩) <|
  .nil) ⟨179, 4, 188, 28⟩) <|
  .cons (.ret (.tup (.cons (.joi (.con (.bytes []) 0 ⟨189, 12, 189, 15⟩) (.slU (.loc "parts" 2 ⟨189, 21, 189, 26⟩) (.neg (.con (.int 1) 0 ⟨189, 29, 189, 30⟩) ⟨189, 28, 189, 30⟩) ⟨189, 27, 189, 30⟩ ⟨189, 21, 189, 31⟩) ⟨189, 12, 189, 20⟩ ⟨189, 12, 189, 32⟩) <| .cons (.loc "at" 4 ⟨189, 34, 189, 36⟩) <| .nil) 0 ⟨189, 11, 189, 37⟩) ⟨189, 4, 189, 37⟩) <|
  .nil
noncomputable def b_plain_kind : Ss :=
  .cons (.ret (.call "Kind" 313 ⟨218, 11, 218, 15⟩ (.cons (.con (.str "text") 0 ⟨218, 16, 218, 22⟩) <| .cons (.con (.str "plain") 0 ⟨218, 24, 218, 31⟩) <| .cons (.dic1 "charset" "us-ascii" ⟨218, 34, 218, 43⟩ ⟨218, 45, 218, 55⟩ ⟨218, 33, 218, 56⟩) <| .nil) ⟨218, 11, 218, 57⟩) ⟨218, 4, 218, 57⟩) <|
  .nil
noncomputable def b_is_token_code : Ss :=
  .cons (.ret (.and (.cmp2 (.con (.int 32) 0 ⟨220, 11, 220, 13⟩) .Lt (.loc "code" 0 ⟨220, 16, 220, 20⟩) .Lt (.con (.int 127) 0 ⟨220, 23, 220, 26⟩) ⟨220, 11, 220, 26⟩) (.cmp (.loc "code" 0 ⟨220, 31, 220, 35⟩) .NotIn (.glo "BARRED" 5 ⟨220, 43, 220, 49⟩) ⟨220, 31, 220, 49⟩) ⟨220, 11, 220, 49⟩) ⟨220, 4, 220, 49⟩) <|
  .nil
noncomputable def b_skip_between : Ss :=
  .cons (.whl (.nt (.met (.loc "cursor" 0 ⟨222, 14, 222, 20⟩) 10 (.nil) ⟨222, 14, 222, 28⟩ ⟨222, 14, 222, 30⟩) ⟨222, 10, 222, 30⟩) (.cons (.ite (.cmp (.met (.loc "cursor" 0 ⟨223, 11, 223, 17⟩) 11 (.nil) ⟨223, 11, 223, 22⟩ ⟨223, 11, 223, 24⟩) .In (.glo "WHITE" 0 ⟨223, 28, 223, 33⟩) ⟨223, 11, 223, 33⟩) (.cons (.exp (.met (.loc "cursor" 0 ⟨224, 12, 224, 18⟩) 12 (.nil) ⟨224, 12, 224, 23⟩ ⟨224, 12, 224, 25⟩) ⟨224, 12, 224, 25⟩) <|
  .nil) (.cons (.ite (.cmp (.met (.loc "cursor" 0 ⟨225, 13, 225, 19⟩) 11 (.nil) ⟨225, 13, 225, 24⟩ ⟨225, 13, 225, 26⟩) .Eq (.glo "BRACKET" 4 ⟨225, 30, 225, 37⟩) ⟨225, 13, 225, 37⟩) (.cons (.ast (.loc "cursor" 0 ⟨226, 12, 226, 18⟩) 1 ⟨226, 12, 226, 21⟩ (.sub (.call "comment_at" 269 ⟨226, 24, 226, 34⟩ (.cons (.att (.loc "cursor" 0 ⟨226, 35, 226, 41⟩) 0 ⟨226, 35, 226, 46⟩) <| .cons (.att (.loc "cursor" 0 ⟨226, 48, 226, 54⟩) 1 ⟨226, 48, 226, 57⟩) <| .nil) ⟨226, 24, 226, 58⟩) (.con (.int 1) 0 ⟨226, 59, 226, 60⟩) ⟨226, 24, 226, 61⟩) ⟨226, 12, 226, 61⟩) <|
  .nil) (.cons (.ret0 ⟨228, 12, 228, 18⟩) <|
  .nil) ⟨225, 8, 228, 18⟩) <|
  .nil) ⟨223, 8, 228, 18⟩) <|
  .nil) ⟨222, 4, 228, 18⟩) <|
  .nil
noncomputable def b_take_token : Ss :=
  .cons (.asg "first" 1 ⟨230, 4, 230, 9⟩ (.att (.loc "cursor" 0 ⟨230, 12, 230, 18⟩) 1 ⟨230, 12, 230, 21⟩) ⟨230, 4, 230, 21⟩) <|
  .cons (.whl (.call "is_token_code" 331 ⟨231, 10, 231, 23⟩ (.cons (.met (.loc "cursor" 0 ⟨231, 24, 231, 30⟩) 11 (.nil) ⟨231, 24, 231, 35⟩ ⟨231, 24, 231, 37⟩) <| .nil) ⟨231, 10, 231, 38⟩) (.cons (.exp (.met (.loc "cursor" 0 ⟨232, 8, 232, 14⟩) 12 (.nil) ⟨232, 8, 232, 19⟩ ⟨232, 8, 232, 21⟩) ⟨232, 8, 232, 21⟩) <|
  .nil) ⟨231, 4, 232, 21⟩) <|
  .cons (.ite (.cmp (.att (.loc "cursor" 0 ⟨233, 7, 233, 13⟩) 1 ⟨233, 7, 233, 16⟩) .Eq (.loc "first" 1 ⟨233, 20, 233, 25⟩) ⟨233, 7, 233, 25⟩) (.cons (.rse "WordFault" 59 ⟨234, 14, 234, 23⟩ (.cons (.con (.str "a word is missing") 0 ⟨234, 24, 234, 43⟩) <| .cons (.loc "first" 1 ⟨234, 45, 234, 50⟩) <| .nil) ⟨234, 14, 234, 51⟩ ⟨234, 8, 234, 51⟩) <|
  .nil) (.nil) ⟨233, 4, 234, 51⟩) <|
  .cons (.ret (.slLU (.att (.loc "cursor" 0 ⟨235, 11, 235, 17⟩) 0 ⟨235, 11, 235, 22⟩) (.loc "first" 1 ⟨235, 23, 235, 28⟩) (.att (.loc "cursor" 0 ⟨235, 29, 235, 35⟩) 1 ⟨235, 29, 235, 38⟩) ⟨235, 23, 235, 38⟩ ⟨235, 11, 235, 39⟩) ⟨235, 4, 235, 39⟩) <|
  .nil
noncomputable def b_is_worth_code : Ss :=
  .cons (.ret (.or (.cmp (.loc "code" 0 ⟨237, 11, 237, 15⟩) .Gt (.con (.int 127) 0 ⟨237, 18, 237, 21⟩) ⟨237, 11, 237, 21⟩) (.call "is_token_code" 331 ⟨237, 25, 237, 38⟩ (.cons (.loc "code" 0 ⟨237, 39, 237, 43⟩) <| .nil) ⟨237, 25, 237, 44⟩) ⟨237, 11, 237, 44⟩) ⟨237, 4, 237, 44⟩) <|
  .nil
noncomputable def b_take_worth : Ss :=
  .cons (.ite (.cmp (.met (.loc "cursor" 0 ⟨239, 7, 239, 13⟩) 11 (.nil) ⟨239, 7, 239, 18⟩ ⟨239, 7, 239, 20⟩) .Eq (.glo "QUOTE" 3 ⟨239, 24, 239, 29⟩) ⟨239, 7, 239, 29⟩) (.cons (.asgA "worth" 1 ⟨240, 8, 240, 13⟩ (.loc "cursor" 0 ⟨240, 15, 240, 21⟩) 1 ⟨240, 15, 240, 24⟩ 0 ⟨240, 8, 240, 24⟩ (.call "closed_at" 262 ⟨240, 27, 240, 36⟩ (.cons (.att (.loc "cursor" 0 ⟨240, 37, 240, 43⟩) 0 ⟨240, 37, 240, 48⟩) <| .cons (.att (.loc "cursor" 0 ⟨240, 50, 240, 56⟩) 1 ⟨240, 50, 240, 59⟩) <| .cons (.con (.bytes [34]) 0 ⟨240, 61, 240, 65⟩) <| .cons (.con (.bytes []) 0 ⟨240, 67, 240, 70⟩) <| .nil) ⟨240, 27, 240, 71⟩) ⟨240, 8, 240, 71⟩) <|
  .cons (.ret (.loc "worth" 1 ⟨241, 15, 241, 20⟩) ⟨241, 8, 241, 20⟩) <|
  .nil) (.nil) ⟨239, 4, 241, 20⟩) <|
  .cons (.asg "first" 2 ⟨242, 4, 242, 9⟩ (.att (.loc "cursor" 0 ⟨242, 12, 242, 18⟩) 1 ⟨242, 12, 242, 21⟩) ⟨242, 4, 242, 21⟩) <|
  .cons (.whl (.call "is_worth_code" 352 ⟨243, 10, 243, 23⟩ (.cons (.met (.loc "cursor" 0 ⟨243, 24, 243, 30⟩) 11 (.nil) ⟨243, 24, 243, 35⟩ ⟨243, 24, 243, 37⟩) <| .nil) ⟨243, 10, 243, 38⟩) (.cons (.exp (.met (.loc "cursor" 0 ⟨244, 8, 244, 14⟩) 12 (.nil) ⟨244, 8, 244, 19⟩ ⟨244, 8, 244, 21⟩) ⟨244, 8, 244, 21⟩) <|
  .nil) ⟨243, 4, 244, 21⟩) <|
  .cons (.ite (.cmp (.att (.loc "cursor" 0 ⟨245, 7, 245, 13⟩) 1 ⟨245, 7, 245, 16⟩) .Eq (.loc "first" 2 ⟨245, 20, 245, 25⟩) ⟨245, 7, 245, 25⟩) (.cons (.rse "WordFault" 59 ⟨246, 14, 246, 23⟩ (.cons (.con (.str "a worth is missing") 0 ⟨246, 24, 246, 44⟩) <| .cons (.loc "first" 2 ⟨246, 46, 246, 51⟩) <| .nil) ⟨246, 14, 246, 52⟩ ⟨246, 8, 246, 52⟩) <|
  .nil) (.nil) ⟨245, 4, 246, 52⟩) <|
  .cons (.ret (.slLU (.att (.loc "cursor" 0 ⟨247, 11, 247, 17⟩) 0 ⟨247, 11, 247, 22⟩) (.loc "first" 2 ⟨247, 23, 247, 28⟩) (.att (.loc "cursor" 0 ⟨247, 29, 247, 35⟩) 1 ⟨247, 29, 247, 38⟩) ⟨247, 23, 247, 38⟩ ⟨247, 11, 247, 39⟩) ⟨247, 4, 247, 39⟩) <|
  .nil
noncomputable def b_small_word : Ss :=
  .cons (.ret (.joi (.con (.str "") 0 ⟨249, 11, 249, 13⟩) (.com (.blt .chr ⟨249, 20, 249, 23⟩ (.cons (.loc "code" 0 ⟨249, 24, 249, 28⟩) <| .nil) ⟨249, 20, 249, 29⟩) "code" ⟨249, 34, 249, 38⟩ (.call "lower" 171 ⟨249, 42, 249, 47⟩ (.cons (.loc "octets" 0 ⟨249, 48, 249, 54⟩) <| .nil) ⟨249, 42, 249, 55⟩) { kind := .function, names := [(".0", .local), ("code", .local), ("chr", .globalImplicit)], isGenerator := false, isCoroutine := false } ⟨249, 19, 249, 56⟩) ⟨249, 11, 249, 18⟩ ⟨249, 11, 249, 57⟩) ⟨249, 4, 249, 57⟩) <|
  .nil
noncomputable def b_take_pairs : Ss :=
  .cons (.asg "pairs" 1 ⟨251, 4, 251, 9⟩ (.lst (.nil) ⟨251, 12, 251, 14⟩) ⟨251, 4, 251, 14⟩) <|
  .cons (.exp (.call "skip_between" 338 ⟨252, 4, 252, 16⟩ (.cons (.loc "cursor" 0 ⟨252, 17, 252, 23⟩) <| .nil) ⟨252, 4, 252, 24⟩) ⟨252, 4, 252, 24⟩) <|
  .cons (.whl (.nt (.met (.loc "cursor" 0 ⟨253, 14, 253, 20⟩) 10 (.nil) ⟨253, 14, 253, 28⟩ ⟨253, 14, 253, 30⟩) ⟨253, 10, 253, 30⟩) (.cons (.ite (.cmp (.met (.loc "cursor" 0 ⟨254, 11, 254, 17⟩) 12 (.nil) ⟨254, 11, 254, 22⟩ ⟨254, 11, 254, 24⟩) .NotEq (.glo "SEMICOLON" 1 ⟨254, 28, 254, 37⟩) ⟨254, 11, 254, 37⟩) (.cons (.rse "WordFault" 59 ⟨255, 18, 255, 27⟩ (.cons (.con (.str "a semicolon is missing") 0 ⟨255, 28, 255, 52⟩) <| .cons (.bin (.att (.loc "cursor" 0 ⟨255, 54, 255, 60⟩) 1 ⟨255, 54, 255, 63⟩) .Sub (.con (.int 1) 0 ⟨255, 66, 255, 67⟩) ⟨255, 54, 255, 67⟩) <| .nil) ⟨255, 18, 255, 68⟩ ⟨255, 12, 255, 68⟩) <|
  .nil) (.nil) ⟨254, 8, 255, 68⟩) <|
  .cons (.exp (.call "skip_between" 338 ⟨256, 8, 256, 20⟩ (.cons (.loc "cursor" 0 ⟨256, 21, 256, 27⟩) <| .nil) ⟨256, 8, 256, 28⟩) ⟨256, 8, 256, 28⟩) <|
  .cons (.ite (.and (.nt (.met (.loc "cursor" 0 ⟨257, 15, 257, 21⟩) 10 (.nil) ⟨257, 15, 257, 29⟩ ⟨257, 15, 257, 31⟩) ⟨257, 11, 257, 31⟩) (.cmp (.met (.loc "cursor" 0 ⟨257, 36, 257, 42⟩) 11 (.nil) ⟨257, 36, 257, 47⟩ ⟨257, 36, 257, 49⟩) .NotEq (.glo "SEMICOLON" 1 ⟨257, 53, 257, 62⟩) ⟨257, 36, 257, 62⟩) ⟨257, 11, 257, 62⟩) (.cons (.asg "name" 2 ⟨258, 12, 258, 16⟩ (.call "small_word" 364 ⟨258, 19, 258, 29⟩ (.cons (.call "take_token" 345 ⟨258, 30, 258, 40⟩ (.cons (.loc "cursor" 0 ⟨258, 41, 258, 47⟩) <| .nil) ⟨258, 30, 258, 48⟩) <| .nil) ⟨258, 19, 258, 49⟩) ⟨258, 12, 258, 49⟩) <|
  .cons (.exp (.call "skip_between" 338 ⟨259, 12, 259, 24⟩ (.cons (.loc "cursor" 0 ⟨259, 25, 259, 31⟩) <| .nil) ⟨259, 12, 259, 32⟩) ⟨259, 12, 259, 32⟩) <|
  .cons (.ite (.cmp (.met (.loc "cursor" 0 ⟨260, 15, 260, 21⟩) 12 (.nil) ⟨260, 15, 260, 26⟩ ⟨260, 15, 260, 28⟩) .NotEq (.glo "EQUALS" 2 ⟨260, 32, 260, 38⟩) ⟨260, 15, 260, 38⟩) (.cons (.rse "WordFault" 59 ⟨261, 22, 261, 31⟩ (.cons (.con (.str "a parameter without its worth") 0 ⟨261, 32, 261, 63⟩) <| .cons (.att (.loc "cursor" 0 ⟨261, 65, 261, 71⟩) 1 ⟨261, 65, 261, 74⟩) <| .nil) ⟨261, 22, 261, 75⟩ ⟨261, 16, 261, 75⟩) <|
  .nil) (.nil) ⟨260, 12, 261, 75⟩) <|
  .cons (.exp (.call "skip_between" 338 ⟨262, 12, 262, 24⟩ (.cons (.loc "cursor" 0 ⟨262, 25, 262, 31⟩) <| .nil) ⟨262, 12, 262, 32⟩) ⟨262, 12, 262, 32⟩) <|
  .cons (.exp (.app (.loc "pairs" 1 ⟨263, 12, 263, 17⟩) (.tup (.cons (.loc "name" 2 ⟨263, 26, 263, 30⟩) <| .cons (.call "take_worth" 359 ⟨263, 32, 263, 42⟩ (.cons (.loc "cursor" 0 ⟨263, 43, 263, 49⟩) <| .nil) ⟨263, 32, 263, 50⟩) <| .nil) 0 ⟨263, 25, 263, 51⟩) ⟨263, 12, 263, 24⟩ ⟨263, 12, 263, 52⟩) ⟨263, 12, 263, 52⟩) <|
  .cons (.exp (.call "skip_between" 338 ⟨264, 12, 264, 24⟩ (.cons (.loc "cursor" 0 ⟨264, 25, 264, 31⟩) <| .nil) ⟨264, 12, 264, 32⟩) ⟨264, 12, 264, 32⟩) <|
  .nil) (.nil) ⟨257, 8, 264, 32⟩) <|
  .nil) ⟨253, 4, 264, 32⟩) <|
  .cons (.ret (.loc "pairs" 1 ⟨265, 11, 265, 16⟩) ⟨265, 4, 265, 16⟩) <|
  .nil
noncomputable def b_part_of : Ss :=
  .cons (.asg "spot" 1 ⟨276, 4, 276, 8⟩ (.fnd (.loc "name" 0 ⟨276, 11, 276, 15⟩) (.con (.str "*") 0 ⟨276, 21, 276, 24⟩) ⟨276, 11, 276, 20⟩ ⟨276, 11, 276, 25⟩) ⟨276, 4, 276, 25⟩) <|
  .cons (.ite (.cmp (.loc "spot" 1 ⟨277, 7, 277, 11⟩) .Lt (.con (.int 1) 0 ⟨277, 14, 277, 15⟩) ⟨277, 7, 277, 15⟩) (.cons (.ret (.con .none 0 ⟨278, 15, 278, 19⟩) ⟨278, 8, 278, 19⟩) <|
  .nil) (.nil) ⟨277, 4, 278, 19⟩) <|
  .cons (.asg "is_encoded" 2 ⟨279, 4, 279, 14⟩ (.cmp (.sub (.loc "name" 0 ⟨279, 17, 279, 21⟩) (.neg (.con (.int 1) 0 ⟨279, 23, 279, 24⟩) ⟨279, 22, 279, 24⟩) ⟨279, 17, 279, 25⟩) .Eq (.con (.str "*") 0 ⟨279, 29, 279, 32⟩) ⟨279, 17, 279, 32⟩) ⟨279, 4, 279, 32⟩) <|
  .cons (.ite (.and (.loc "is_encoded" 2 ⟨280, 7, 280, 17⟩) (.cmp (.loc "spot" 1 ⟨280, 22, 280, 26⟩) .Eq (.bin (.blt .len ⟨280, 30, 280, 33⟩ (.cons (.loc "name" 0 ⟨280, 34, 280, 38⟩) <| .nil) ⟨280, 30, 280, 39⟩) .Sub (.con (.int 1) 0 ⟨280, 42, 280, 43⟩) ⟨280, 30, 280, 43⟩) ⟨280, 22, 280, 43⟩) ⟨280, 7, 280, 43⟩) (.cons (.ret (.tup (.cons (.slU (.loc "name" 0 ⟨281, 16, 281, 20⟩) (.loc "spot" 1 ⟨281, 22, 281, 26⟩) ⟨281, 21, 281, 26⟩ ⟨281, 16, 281, 27⟩) <| .cons (.con (.int 0) 0 ⟨281, 29, 281, 30⟩) <| .cons (.con (.bool true) 0 ⟨281, 32, 281, 36⟩) <| .nil) 0 ⟨281, 15, 281, 37⟩) ⟨281, 8, 281, 37⟩) <|
  .nil) (.nil) ⟨280, 4, 281, 37⟩) <|
  .cons (.asg "number" 3 ⟨282, 4, 282, 10⟩ (.call "part_number" 378 ⟨282, 13, 282, 24⟩ (.cons (.ife (.loc "is_encoded" 2 ⟨282, 57, 282, 67⟩) (.slLU (.loc "name" 0 ⟨282, 25, 282, 29⟩) (.bin (.loc "spot" 1 ⟨282, 30, 282, 34⟩) .Add (.con (.int 1) 0 ⟨282, 37, 282, 38⟩) ⟨282, 30, 282, 38⟩) (.bin (.blt .len ⟨282, 39, 282, 42⟩ (.cons (.loc "name" 0 ⟨282, 43, 282, 47⟩) <| .nil) ⟨282, 39, 282, 48⟩) .Sub (.con (.int 1) 0 ⟨282, 51, 282, 52⟩) ⟨282, 39, 282, 52⟩) ⟨282, 30, 282, 52⟩ ⟨282, 25, 282, 53⟩) (.slL (.loc "name" 0 ⟨282, 73, 282, 77⟩) (.bin (.loc "spot" 1 ⟨282, 78, 282, 82⟩) .Add (.con (.int 1) 0 ⟨282, 85, 282, 86⟩) ⟨282, 78, 282, 86⟩) ⟨282, 78, 282, 87⟩ ⟨282, 73, 282, 88⟩) ⟨282, 25, 282, 88⟩) <| .nil) ⟨282, 13, 282, 89⟩) ⟨282, 4, 282, 89⟩) <|
  .cons (.ret (.ife (.cmp (.loc "number" 3 ⟨283, 48, 283, 54⟩) .GtE (.con (.int 0) 0 ⟨283, 58, 283, 59⟩) ⟨283, 48, 283, 59⟩) (.tup (.cons (.slU (.loc "name" 0 ⟨283, 12, 283, 16⟩) (.loc "spot" 1 ⟨283, 18, 283, 22⟩) ⟨283, 17, 283, 22⟩ ⟨283, 12, 283, 23⟩) <| .cons (.loc "number" 3 ⟨283, 25, 283, 31⟩) <| .cons (.loc "is_encoded" 2 ⟨283, 33, 283, 43⟩) <| .nil) 0 ⟨283, 11, 283, 44⟩) (.con .none 0 ⟨283, 65, 283, 69⟩) ⟨283, 11, 283, 69⟩) ⟨283, 4, 283, 69⟩) <|
  .nil
noncomputable def b_params_of : Ss :=
  .cons (.asg "plain" 1 ⟨314, 4, 314, 9⟩ (.dic0 ⟨314, 12, 314, 14⟩) ⟨314, 4, 314, 14⟩) <|
  .cons (.asg "parted" 2 ⟨315, 4, 315, 10⟩ (.dic0 ⟨315, 13, 315, 15⟩) ⟨315, 4, 315, 15⟩) <|
  .cons (.for2 "name" 3 ⟨316, 8, 316, 12⟩ "worth" 4 ⟨316, 14, 316, 19⟩ 0 ⟨316, 8, 316, 19⟩ (.loc "pairs" 0 ⟨316, 23, 316, 28⟩) (.cons (.asg "part" 5 ⟨317, 8, 317, 12⟩ (.call "part_of" 385 ⟨317, 15, 317, 22⟩ (.cons (.loc "name" 3 ⟨317, 23, 317, 27⟩) <| .nil) ⟨317, 15, 317, 28⟩) ⟨317, 8, 317, 28⟩) <|
  .cons (.ite (.cmp (.loc "part" 5 ⟨318, 11, 318, 15⟩) .Is (.con .none 0 ⟨318, 19, 318, 23⟩) ⟨318, 11, 318, 23⟩) (.cons (.ite (.cmp (.loc "name" 3 ⟨319, 15, 319, 19⟩) .NotIn (.loc "plain" 1 ⟨319, 27, 319, 32⟩) ⟨319, 15, 319, 32⟩) (.cons (.sst (.loc "plain" 1 ⟨320, 16, 320, 21⟩) (.loc "name" 3 ⟨320, 22, 320, 26⟩) ⟨320, 16, 320, 27⟩ (.call "guessed_text" 240 ⟨320, 30, 320, 42⟩ (.cons (.loc "worth" 4 ⟨320, 43, 320, 48⟩) <| .nil) ⟨320, 30, 320, 49⟩) ⟨320, 16, 320, 49⟩) <|
  .nil) (.nil) ⟨319, 12, 320, 49⟩) <|
  .nil) (.cons (.asg3 "base" 6 ⟨322, 12, 322, 16⟩ "number" 7 ⟨322, 18, 322, 24⟩ "is_encoded" 8 ⟨322, 26, 322, 36⟩ 0 ⟨322, 12, 322, 36⟩ (.loc "part" 5 ⟨322, 39, 322, 43⟩) ⟨322, 12, 322, 43⟩) <|
  .cons (.ite (.cmp (.loc "base" 6 ⟨323, 15, 323, 19⟩) .NotIn (.loc "parted" 2 ⟨323, 27, 323, 33⟩) ⟨323, 15, 323, 33⟩) (.cons (.sst (.loc "parted" 2 ⟨324, 16, 324, 22⟩) (.loc "base" 6 ⟨324, 23, 324, 27⟩) ⟨324, 16, 324, 28⟩ (.dic0 ⟨324, 31, 324, 33⟩) ⟨324, 16, 324, 33⟩) <|
  .nil) (.nil) ⟨323, 12, 324, 33⟩) <|
  .cons (.ite (.cmp (.loc "number" 7 ⟨325, 15, 325, 21⟩) .NotIn (.sub (.loc "parted" 2 ⟨325, 29, 325, 35⟩) (.loc "base" 6 ⟨325, 36, 325, 40⟩) ⟨325, 29, 325, 41⟩) ⟨325, 15, 325, 41⟩) (.cons (.sst (.sub (.loc "parted" 2 ⟨326, 16, 326, 22⟩) (.loc "base" 6 ⟨326, 23, 326, 27⟩) ⟨326, 16, 326, 28⟩) (.loc "number" 7 ⟨326, 29, 326, 35⟩) ⟨326, 16, 326, 36⟩ (.tup (.cons (.loc "is_encoded" 8 ⟨326, 40, 326, 50⟩) <| .cons (.loc "worth" 4 ⟨326, 52, 326, 57⟩) <| .nil) 0 ⟨326, 39, 326, 58⟩) ⟨326, 16, 326, 58⟩) <|
  .nil) (.nil) ⟨325, 12, 326, 58⟩) <|
  .nil) ⟨318, 8, 326, 58⟩) <|
  .nil) ⟨316, 4, 326, 58⟩) <|
  .cons (.for1 "base" 6 ⟨327, 8, 327, 12⟩ (.loc "parted" 2 ⟨327, 16, 327, 22⟩) (.cons (.ite (.cmp (.con (.int 0) 0 ⟨328, 11, 328, 12⟩) .In (.sub (.loc "parted" 2 ⟨328, 16, 328, 22⟩) (.loc "base" 6 ⟨328, 23, 328, 27⟩) ⟨328, 16, 328, 28⟩) ⟨328, 11, 328, 28⟩) (.cons (.sst (.loc "plain" 1 ⟨329, 12, 329, 17⟩) (.loc "base" 6 ⟨329, 18, 329, 22⟩) ⟨329, 12, 329, 23⟩ (.call "joined_worth" 409 ⟨329, 26, 329, 38⟩ (.cons (.sub (.loc "parted" 2 ⟨329, 39, 329, 45⟩) (.loc "base" 6 ⟨329, 46, 329, 50⟩) ⟨329, 39, 329, 51⟩) <| .nil) ⟨329, 26, 329, 52⟩) ⟨329, 12, 329, 52⟩) <|
  .nil) (.nil) ⟨328, 8, 329, 52⟩) <|
  .nil) ⟨327, 4, 329, 52⟩) <|
  .cons (.ret (.loc "plain" 1 ⟨330, 11, 330, 16⟩) ⟨330, 4, 330, 16⟩) <|
  .nil
noncomputable def b_read_value : Ss :=
  .cons (.asg "cursor" 1 ⟨332, 4, 332, 10⟩ (.call "Cursor" 155 ⟨332, 13, 332, 19⟩ (.cons (.loc "octets" 0 ⟨332, 20, 332, 26⟩) <| .nil) ⟨332, 13, 332, 27⟩) ⟨332, 4, 332, 27⟩) <|
  .cons (.exp (.call "skip_between" 338 ⟨333, 4, 333, 16⟩ (.cons (.loc "cursor" 1 ⟨333, 17, 333, 23⟩) <| .nil) ⟨333, 4, 333, 24⟩) ⟨333, 4, 333, 24⟩) <|
  .cons (.asg "word" 2 ⟨334, 4, 334, 8⟩ (.call "small_word" 364 ⟨334, 11, 334, 21⟩ (.cons (.call "take_token" 345 ⟨334, 22, 334, 32⟩ (.cons (.loc "cursor" 1 ⟨334, 33, 334, 39⟩) <| .nil) ⟨334, 22, 334, 40⟩) <| .nil) ⟨334, 11, 334, 41⟩) ⟨334, 4, 334, 41⟩) <|
  .cons (.ret (.tup (.cons (.loc "word" 2 ⟨335, 12, 335, 16⟩) <| .cons (.call "params_of" 416 ⟨335, 18, 335, 27⟩ (.cons (.call "take_pairs" 371 ⟨335, 28, 335, 38⟩ (.cons (.loc "cursor" 1 ⟨335, 39, 335, 45⟩) <| .nil) ⟨335, 28, 335, 46⟩) <| .nil) ⟨335, 18, 335, 47⟩) <| .nil) 0 ⟨335, 11, 335, 48⟩) ⟨335, 4, 335, 48⟩) <|
  .nil
noncomputable def b_strict_kind : Ss :=
  .cons (.asg "cursor" 1 ⟨337, 4, 337, 10⟩ (.call "Cursor" 155 ⟨337, 13, 337, 19⟩ (.cons (.loc "octets" 0 ⟨337, 20, 337, 26⟩) <| .nil) ⟨337, 13, 337, 27⟩) ⟨337, 4, 337, 27⟩) <|
  .cons (.exp (.call "skip_between" 338 ⟨338, 4, 338, 16⟩ (.cons (.loc "cursor" 1 ⟨338, 17, 338, 23⟩) <| .nil) ⟨338, 4, 338, 24⟩) ⟨338, 4, 338, 24⟩) <|
  .cons (.asg "top" 2 ⟨339, 4, 339, 7⟩ (.call "small_word" 364 ⟨339, 10, 339, 20⟩ (.cons (.call "take_token" 345 ⟨339, 21, 339, 31⟩ (.cons (.loc "cursor" 1 ⟨339, 32, 339, 38⟩) <| .nil) ⟨339, 21, 339, 39⟩) <| .nil) ⟨339, 10, 339, 40⟩) ⟨339, 4, 339, 40⟩) <|
  .cons (.exp (.call "skip_between" 338 ⟨340, 4, 340, 16⟩ (.cons (.loc "cursor" 1 ⟨340, 17, 340, 23⟩) <| .nil) ⟨340, 4, 340, 24⟩) ⟨340, 4, 340, 24⟩) <|
  .cons (.ite (.nt (.met (.loc "cursor" 1 ⟨341, 11, 341, 17⟩) 14 (.cons (.con (.bytes [47]) 0 ⟨341, 23, 341, 27⟩) <| .nil) ⟨341, 11, 341, 22⟩ ⟨341, 11, 341, 28⟩) ⟨341, 7, 341, 28⟩) (.cons (.rse "WordFault" 59 ⟨342, 14, 342, 23⟩ (.cons (.con (.str "a kind without its second word") 0 ⟨342, 24, 342, 56⟩) <| .cons (.att (.loc "cursor" 1 ⟨342, 58, 342, 64⟩) 1 ⟨342, 58, 342, 67⟩) <| .nil) ⟨342, 14, 342, 68⟩ ⟨342, 8, 342, 68⟩) <|
  .nil) (.nil) ⟨341, 4, 342, 68⟩) <|
  .cons (.exp (.call "skip_between" 338 ⟨343, 4, 343, 16⟩ (.cons (.loc "cursor" 1 ⟨343, 17, 343, 23⟩) <| .nil) ⟨343, 4, 343, 24⟩) ⟨343, 4, 343, 24⟩) <|
  .cons (.asg "sub" 3 ⟨344, 4, 344, 7⟩ (.call "small_word" 364 ⟨344, 10, 344, 20⟩ (.cons (.call "take_token" 345 ⟨344, 21, 344, 31⟩ (.cons (.loc "cursor" 1 ⟨344, 32, 344, 38⟩) <| .nil) ⟨344, 21, 344, 39⟩) <| .nil) ⟨344, 10, 344, 40⟩) ⟨344, 4, 344, 40⟩) <|
  .cons (.ret (.call "Kind" 313 ⟨345, 11, 345, 15⟩ (.cons (.loc "top" 2 ⟨345, 16, 345, 19⟩) <| .cons (.loc "sub" 3 ⟨345, 21, 345, 24⟩) <| .cons (.call "params_of" 416 ⟨345, 26, 345, 35⟩ (.cons (.call "take_pairs" 371 ⟨345, 36, 345, 46⟩ (.cons (.loc "cursor" 1 ⟨345, 47, 345, 53⟩) <| .nil) ⟨345, 36, 345, 54⟩) <| .nil) ⟨345, 26, 345, 55⟩) <| .nil) ⟨345, 11, 345, 56⟩) ⟨345, 4, 345, 56⟩) <|
  .nil
noncomputable def b_read_kind : Ss :=
  .cons (.ite (.cmp (.loc "octets" 0 ⟨347, 7, 347, 13⟩) .Is (.con .none 0 ⟨347, 17, 347, 21⟩) ⟨347, 7, 347, 21⟩) (.cons (.ret (.call "plain_kind" 324 ⟨348, 15, 348, 25⟩ (.nil) ⟨348, 15, 348, 27⟩) ⟨348, 8, 348, 27⟩) <|
  .nil) (.nil) ⟨347, 4, 348, 27⟩) <|
  .cons (.tr (.cons (.ret (.call "strict_kind" 430 ⟨350, 15, 350, 26⟩ (.cons (.loc "octets" 0 ⟨350, 27, 350, 33⟩) <| .nil) ⟨350, 15, 350, 34⟩) ⟨350, 8, 350, 34⟩) <|
  .nil) "WordFault" 59 ⟨351, 11, 351, 20⟩ (.cons (.ret (.call "plain_kind" 324 ⟨352, 15, 352, 25⟩ (.nil) ⟨352, 15, 352, 27⟩) ⟨352, 8, 352, 27⟩) <|
  .nil) ⟨351, 4, 352, 27⟩ ⟨349, 4, 352, 27⟩) <|
  .nil
noncomputable def b_l_pot : Ss :=
  .cons (.asgC "cells" 2 ⟨355, 4, 355, 9⟩ (.com (.blt .int ⟨355, 13, 355, 16⟩ (.cons (.loc "cell" 0 ⟨355, 17, 355, 21⟩) <| .nil) ⟨355, 13, 355, 22⟩) "cell" ⟨355, 27, 355, 31⟩ (.slU (.loc "script" 0 ⟨355, 35, 355, 41⟩) (.con (.int 40) 0 ⟨355, 43, 355, 45⟩) ⟨355, 42, 355, 45⟩ ⟨355, 35, 355, 46⟩) { kind := .function, names := [(".0", .local), ("cell", .local), ("int", .globalImplicit)], isGenerator := false, isCoroutine := false } ⟨355, 12, 355, 47⟩) ⟨355, 4, 355, 47⟩) <|
  .cons (.asg "state" 3 ⟨356, 4, 356, 9⟩ (.con (.int 1) 0 ⟨356, 12, 356, 13⟩) ⟨356, 4, 356, 13⟩) <|
  .cons (.for1 "cell" 1 ⟨357, 8, 357, 12⟩ (.loc "cells" 2 ⟨357, 16, 357, 21⟩) (.cons (.asg "state" 3 ⟨358, 8, 358, 13⟩ (.bin (.bin (.bin (.bin (.loc "state" 3 ⟨358, 17, 358, 22⟩) .Mult (.con (.int 48271) 0 ⟨358, 25, 358, 30⟩) ⟨358, 17, 358, 30⟩) .Add (.bin (.loc "cell" 1 ⟨358, 33, 358, 37⟩) .Mod (.con (.int 2147483647) 0 ⟨358, 40, 358, 50⟩) ⟨358, 33, 358, 50⟩) ⟨358, 17, 358, 50⟩) .Add (.con (.int 12345) 0 ⟨358, 53, 358, 58⟩) ⟨358, 17, 358, 58⟩) .Mod (.con (.int 2147483647) 0 ⟨358, 62, 358, 72⟩) ⟨358, 16, 358, 72⟩) ⟨358, 8, 358, 72⟩) <|
  .nil) ⟨357, 4, 358, 72⟩) <|
  .cons (.ret (.lst (.cons (.com (.bin (.blt .abs ⟨359, 13, 359, 16⟩ (.cons (.loc "cell" 0 ⟨359, 17, 359, 21⟩) <| .nil) ⟨359, 13, 359, 22⟩) .Mod (.bin (.con (.int 10) 0 ⟨359, 25, 359, 27⟩) .Pow (.con (.int 400) 0 ⟨359, 31, 359, 34⟩) ⟨359, 25, 359, 34⟩) ⟨359, 13, 359, 34⟩) "cell" ⟨359, 39, 359, 43⟩ (.loc "cells" 2 ⟨359, 47, 359, 52⟩) { kind := .function, names := [(".0", .local), ("cell", .local), ("abs", .globalImplicit)], isGenerator := false, isCoroutine := false } ⟨359, 12, 359, 53⟩) <| .cons (.loc "state" 3 ⟨359, 55, 359, 60⟩) <| .cons (.con (.int 0) 0 ⟨359, 62, 359, 63⟩) <| .nil) ⟨359, 11, 359, 64⟩) ⟨359, 4, 359, 64⟩) <|
  .nil
noncomputable def b_l_draw : Ss :=
  .cons (.asg "place" 2 ⟨361, 4, 361, 9⟩ (.sub (.loc "pot" 0 ⟨361, 12, 361, 15⟩) (.con (.int 2) 0 ⟨361, 16, 361, 17⟩) ⟨361, 12, 361, 18⟩) ⟨361, 4, 361, 18⟩) <|
  .cons (.sst (.loc "pot" 0 ⟨362, 4, 362, 7⟩) (.con (.int 2) 0 ⟨362, 8, 362, 9⟩) ⟨362, 4, 362, 10⟩ (.bin (.loc "place" 2 ⟨362, 13, 362, 18⟩) .Add (.con (.int 1) 0 ⟨362, 21, 362, 22⟩) ⟨362, 13, 362, 22⟩) ⟨362, 4, 362, 22⟩) <|
  .cons (.ite (.sub (.loc "pot" 0 ⟨363, 7, 363, 10⟩) (.con (.int 0) 0 ⟨363, 11, 363, 12⟩) ⟨363, 7, 363, 13⟩) (.cons (.asg "spot" 3 ⟨364, 8, 364, 12⟩ (.bin (.loc "place" 2 ⟨364, 15, 364, 20⟩) .Mod (.blt .len ⟨364, 23, 364, 26⟩ (.cons (.sub (.loc "pot" 0 ⟨364, 27, 364, 30⟩) (.con (.int 0) 0 ⟨364, 31, 364, 32⟩) ⟨364, 27, 364, 33⟩) <| .nil) ⟨364, 23, 364, 34⟩) ⟨364, 15, 364, 34⟩) ⟨364, 8, 364, 34⟩) <|
  .cons (.asg "here" 4 ⟨365, 8, 365, 12⟩ (.sub (.sub (.loc "pot" 0 ⟨365, 15, 365, 18⟩) (.con (.int 0) 0 ⟨365, 19, 365, 20⟩) ⟨365, 15, 365, 21⟩) (.loc "spot" 3 ⟨365, 22, 365, 26⟩) ⟨365, 15, 365, 27⟩) ⟨365, 8, 365, 27⟩) <|
  .cons (.ite (.cmp (.loc "here" 4 ⟨366, 11, 366, 15⟩) .Gt (.con (.int 0) 0 ⟨366, 18, 366, 19⟩) ⟨366, 11, 366, 19⟩) (.cons (.sst (.sub (.loc "pot" 0 ⟨367, 12, 367, 15⟩) (.con (.int 0) 0 ⟨367, 16, 367, 17⟩) ⟨367, 12, 367, 18⟩) (.loc "spot" 3 ⟨367, 19, 367, 23⟩) ⟨367, 12, 367, 24⟩ (.bin (.loc "here" 4 ⟨367, 27, 367, 31⟩) .FloorDiv (.loc "limit" 1 ⟨367, 35, 367, 40⟩) ⟨367, 27, 367, 40⟩) ⟨367, 12, 367, 40⟩) <|
  .cons (.ret (.bin (.loc "here" 4 ⟨368, 19, 368, 23⟩) .Mod (.loc "limit" 1 ⟨368, 26, 368, 31⟩) ⟨368, 19, 368, 31⟩) ⟨368, 12, 368, 31⟩) <|
  .nil) (.nil) ⟨366, 8, 368, 31⟩) <|
  .nil) (.nil) ⟨363, 4, 368, 31⟩) <|
  .cons (.sst (.loc "pot" 0 ⟨369, 4, 369, 7⟩) (.con (.int 1) 0 ⟨369, 8, 369, 9⟩) ⟨369, 4, 369, 10⟩ (.bin (.bin (.bin (.bin (.sub (.loc "pot" 0 ⟨369, 14, 369, 17⟩) (.con (.int 1) 0 ⟨369, 18, 369, 19⟩) ⟨369, 14, 369, 20⟩) .Mult (.con (.int 16807) 0 ⟨369, 23, 369, 28⟩) ⟨369, 14, 369, 28⟩) .Add (.bin (.loc "place" 2 ⟨369, 31, 369, 36⟩) .Mult (.loc "place" 2 ⟨369, 39, 369, 44⟩) ⟨369, 31, 369, 44⟩) ⟨369, 14, 369, 44⟩) .Add (.con (.int 7) 0 ⟨369, 47, 369, 48⟩) ⟨369, 14, 369, 48⟩) .Mod (.con (.int 2147483647) 0 ⟨369, 52, 369, 62⟩) ⟨369, 13, 369, 62⟩) ⟨369, 4, 369, 62⟩) <|
  .cons (.ret (.bin (.bin (.sub (.loc "pot" 0 ⟨370, 11, 370, 14⟩) (.con (.int 1) 0 ⟨370, 15, 370, 16⟩) ⟨370, 11, 370, 17⟩) .FloorDiv (.con (.int 5) 0 ⟨370, 21, 370, 22⟩) ⟨370, 11, 370, 22⟩) .Mod (.loc "limit" 1 ⟨370, 25, 370, 30⟩) ⟨370, 11, 370, 30⟩) ⟨370, 4, 370, 30⟩) <|
  .nil
noncomputable def b_l_gaps : Ss :=
  .cons (.ret (.lst (.cons (.con (.bytes []) 0 ⟨372, 12, 372, 15⟩) <| .cons (.con (.bytes [32]) 0 ⟨372, 17, 372, 21⟩) <| .cons (.con (.bytes [13, 10, 32]) 0 ⟨372, 23, 372, 31⟩) <| .cons (.con (.bytes [9]) 0 ⟨372, 33, 372, 38⟩) <| .cons (.con (.bytes [40, 97, 32, 40, 98, 41, 32, 99, 41]) 0 ⟨372, 40, 372, 52⟩) <| .cons (.con (.bytes [32, 40, 120, 59, 121, 61, 92, 41, 122, 41, 32]) 0 ⟨372, 54, 372, 69⟩) <| .nil) ⟨372, 11, 372, 70⟩) ⟨372, 4, 372, 70⟩) <|
  .nil
noncomputable def b_l_heads : Ss :=
  .cons (.ret (.lst (.cons (.con (.bytes [116, 101, 120, 116, 47, 112, 108, 97, 105, 110]) 0 ⟨374, 12, 374, 25⟩) <| .cons (.con (.bytes [84, 101, 120, 116, 32, 47, 32, 72, 116, 109, 108]) 0 ⟨374, 27, 374, 41⟩) <| .cons (.con (.bytes [109, 117, 108, 116, 105, 112, 97, 114, 116, 47, 109, 105, 120, 101, 100]) 0 ⟨374, 43, 374, 61⟩) <| .cons (.con (.bytes [77, 69, 83, 83, 65, 71, 69, 47, 82, 70, 67, 56, 50, 50]) 0 ⟨374, 63, 374, 80⟩) <| .cons (.con (.bytes [97, 116, 116, 97, 99, 104, 109, 101, 110, 116]) 0 ⟨374, 82, 374, 95⟩) <| .cons (.con (.bytes [105, 110, 108, 105, 110, 101]) 0 ⟨374, 97, 374, 106⟩) <| .cons (.con (.bytes [97, 47, 98, 47, 99]) 0 ⟨374, 108, 374, 116⟩) <| .cons (.con (.bytes [116, 101, 32, 120, 116, 47, 120]) 0 ⟨374, 118, 374, 128⟩) <| .nil) ⟨374, 11, 374, 129⟩) ⟨374, 4, 374, 129⟩) <|
  .nil
noncomputable def b_l_names : Ss :=
  .cons (.ret (.lst (.cons (.con (.bytes [110, 97, 109, 101]) 0 ⟨376, 12, 376, 19⟩) <| .cons (.con (.bytes [67, 104, 97, 114, 115, 101, 116]) 0 ⟨376, 21, 376, 31⟩) <| .cons (.con (.bytes [120, 45, 49]) 0 ⟨376, 33, 376, 39⟩) <| .cons (.con (.bytes [110, 97, 109, 101]) 0 ⟨376, 41, 376, 48⟩) <| .cons (.con (.bytes [97, 46, 98]) 0 ⟨376, 50, 376, 56⟩) <| .nil) ⟨376, 11, 376, 57⟩) ⟨376, 4, 376, 57⟩) <|
  .nil
noncomputable def b_l_worths : Ss :=
  .cons (.ret (.lst (.cons (.con (.bytes [117, 115, 45, 97, 115, 99, 105, 105]) 0 ⟨378, 12, 378, 23⟩) <| .cons (.con (.bytes [34, 116, 119, 111, 32, 119, 111, 114, 100, 115, 34]) 0 ⟨378, 25, 378, 39⟩) <| .cons (.con (.bytes [34, 97, 92, 34, 98, 59, 99, 34]) 0 ⟨378, 41, 378, 53⟩) <| .cons (.con (.bytes [120, 46, 121]) 0 ⟨378, 55, 378, 61⟩) <| .cons (.con (.bytes [233]) 0 ⟨378, 63, 378, 70⟩) <| .cons (.con (.bytes [34, 195, 169, 34]) 0 ⟨378, 72, 378, 85⟩) <| .cons (.con (.bytes [34, 34]) 0 ⟨378, 87, 378, 92⟩) <| .cons (.con (.bytes [66, 43, 99]) 0 ⟨378, 94, 378, 100⟩) <| .nil) ⟨378, 11, 378, 101⟩) ⟨378, 4, 378, 101⟩) <|
  .nil
noncomputable def b_l_gap : Ss :=
  .cons (.ret (.sub (.call "_law_gaps" 456 ⟨380, 11, 380, 20⟩ (.nil) ⟨380, 11, 380, 22⟩) (.call "_law_draw" 449 ⟨380, 23, 380, 32⟩ (.cons (.loc "pot" 0 ⟨380, 33, 380, 36⟩) <| .cons (.con (.int 6) 0 ⟨380, 38, 380, 39⟩) <| .nil) ⟨380, 23, 380, 40⟩) ⟨380, 11, 380, 41⟩) ⟨380, 4, 380, 41⟩) <|
  .nil
noncomputable def b_l_octets : Ss :=
  .cons (.asg "octets" 1 ⟨382, 4, 382, 10⟩ (.bin (.bin (.call "_law_gap" 484 ⟨382, 13, 382, 21⟩ (.cons (.loc "pot" 0 ⟨382, 22, 382, 25⟩) <| .nil) ⟨382, 13, 382, 26⟩) .Add (.sub (.call "_law_heads" 463 ⟨382, 29, 382, 39⟩ (.nil) ⟨382, 29, 382, 41⟩) (.call "_law_draw" 449 ⟨382, 42, 382, 51⟩ (.cons (.loc "pot" 0 ⟨382, 52, 382, 55⟩) <| .cons (.con (.int 8) 0 ⟨382, 57, 382, 58⟩) <| .nil) ⟨382, 42, 382, 59⟩) ⟨382, 29, 382, 60⟩) ⟨382, 13, 382, 60⟩) .Add (.call "_law_gap" 484 ⟨382, 63, 382, 71⟩ (.cons (.loc "pot" 0 ⟨382, 72, 382, 75⟩) <| .nil) ⟨382, 63, 382, 76⟩) ⟨382, 13, 382, 76⟩) ⟨382, 4, 382, 76⟩) <|
  .cons (.forR "turn" 2 ⟨383, 8, 383, 12⟩ ⟨383, 16, 383, 21⟩ (.cons (.call "_law_draw" 449 ⟨383, 22, 383, 31⟩ (.cons (.loc "pot" 0 ⟨383, 32, 383, 35⟩) <| .cons (.con (.int 4) 0 ⟨383, 37, 383, 38⟩) <| .nil) ⟨383, 22, 383, 39⟩) <| .nil) ⟨383, 16, 383, 40⟩ (.cons (.asg "octets" 1 ⟨384, 8, 384, 14⟩ (.bin (.bin (.loc "octets" 1 ⟨384, 17, 384, 23⟩) .Add (.con (.bytes [59]) 0 ⟨384, 26, 384, 30⟩) ⟨384, 17, 384, 30⟩) .Add (.call "_law_gap" 484 ⟨384, 33, 384, 41⟩ (.cons (.loc "pot" 0 ⟨384, 42, 384, 45⟩) <| .nil) ⟨384, 33, 384, 46⟩) ⟨384, 17, 384, 46⟩) ⟨384, 8, 384, 46⟩) <|
  .cons (.ite (.cmp (.call "_law_draw" 449 ⟨385, 11, 385, 20⟩ (.cons (.loc "pot" 0 ⟨385, 21, 385, 24⟩) <| .cons (.con (.int 6) 0 ⟨385, 26, 385, 27⟩) <| .nil) ⟨385, 11, 385, 28⟩) .Gt (.con (.int 0) 0 ⟨385, 31, 385, 32⟩) ⟨385, 11, 385, 32⟩) (.cons (.asg "octets" 1 ⟨386, 12, 386, 18⟩ (.bin (.bin (.bin (.bin (.loc "octets" 1 ⟨386, 21, 386, 27⟩) .Add (.sub (.call "_law_names" 470 ⟨386, 30, 386, 40⟩ (.nil) ⟨386, 30, 386, 42⟩) (.call "_law_draw" 449 ⟨386, 43, 386, 52⟩ (.cons (.loc "pot" 0 ⟨386, 53, 386, 56⟩) <| .cons (.con (.int 5) 0 ⟨386, 58, 386, 59⟩) <| .nil) ⟨386, 43, 386, 60⟩) ⟨386, 30, 386, 61⟩) ⟨386, 21, 386, 61⟩) .Add (.call "_law_gap" 484 ⟨386, 64, 386, 72⟩ (.cons (.loc "pot" 0 ⟨386, 73, 386, 76⟩) <| .nil) ⟨386, 64, 386, 77⟩) ⟨386, 21, 386, 77⟩) .Add (.con (.bytes [61]) 0 ⟨386, 80, 386, 84⟩) ⟨386, 21, 386, 84⟩) .Add (.call "_law_gap" 484 ⟨386, 87, 386, 95⟩ (.cons (.loc "pot" 0 ⟨386, 96, 386, 99⟩) <| .nil) ⟨386, 87, 386, 100⟩) ⟨386, 21, 386, 100⟩) ⟨386, 12, 386, 100⟩) <|
  .cons (.asg "octets" 1 ⟨387, 12, 387, 18⟩ (.bin (.bin (.loc "octets" 1 ⟨387, 21, 387, 27⟩) .Add (.sub (.call "_law_worths" 477 ⟨387, 30, 387, 41⟩ (.nil) ⟨387, 30, 387, 43⟩) (.call "_law_draw" 449 ⟨387, 44, 387, 53⟩ (.cons (.loc "pot" 0 ⟨387, 54, 387, 57⟩) <| .cons (.con (.int 8) 0 ⟨387, 59, 387, 60⟩) <| .nil) ⟨387, 44, 387, 61⟩) ⟨387, 30, 387, 62⟩) ⟨387, 21, 387, 62⟩) .Add (.call "_law_gap" 484 ⟨387, 65, 387, 73⟩ (.cons (.loc "pot" 0 ⟨387, 74, 387, 77⟩) <| .nil) ⟨387, 65, 387, 78⟩) ⟨387, 21, 387, 78⟩) ⟨387, 12, 387, 78⟩) <|
  .nil) (.nil) ⟨385, 8, 387, 78⟩) <|
  .nil) ⟨383, 4, 387, 78⟩) <|
  .cons (.asg "way" 3 ⟨388, 4, 388, 7⟩ (.call "_law_draw" 449 ⟨388, 10, 388, 19⟩ (.cons (.loc "pot" 0 ⟨388, 20, 388, 23⟩) <| .cons (.con (.int 6) 0 ⟨388, 25, 388, 26⟩) <| .nil) ⟨388, 10, 388, 27⟩) ⟨388, 4, 388, 27⟩) <|
  .cons (.ite (.cmp (.loc "way" 3 ⟨389, 7, 389, 10⟩) .Eq (.con (.int 0) 0 ⟨389, 14, 389, 15⟩) ⟨389, 7, 389, 15⟩) (.cons (.asg "octets" 1 ⟨390, 8, 390, 14⟩ (.slU (.loc "octets" 1 ⟨390, 17, 390, 23⟩) (.call "_law_draw" 449 ⟨390, 25, 390, 34⟩ (.cons (.loc "pot" 0 ⟨390, 35, 390, 38⟩) <| .cons (.bin (.blt .len ⟨390, 40, 390, 43⟩ (.cons (.loc "octets" 1 ⟨390, 44, 390, 50⟩) <| .nil) ⟨390, 40, 390, 51⟩) .Add (.con (.int 1) 0 ⟨390, 54, 390, 55⟩) ⟨390, 40, 390, 55⟩) <| .nil) ⟨390, 25, 390, 56⟩) ⟨390, 24, 390, 56⟩ ⟨390, 17, 390, 57⟩) ⟨390, 8, 390, 57⟩) <|
  .nil) (.cons (.ite (.cmp (.loc "way" 3 ⟨391, 9, 391, 12⟩) .Eq (.con (.int 1) 0 ⟨391, 16, 391, 17⟩) ⟨391, 9, 391, 17⟩) (.cons (.asg "spot" 4 ⟨392, 8, 392, 12⟩ (.call "_law_draw" 449 ⟨392, 15, 392, 24⟩ (.cons (.loc "pot" 0 ⟨392, 25, 392, 28⟩) <| .cons (.blt .len ⟨392, 30, 392, 33⟩ (.cons (.loc "octets" 1 ⟨392, 34, 392, 40⟩) <| .nil) ⟨392, 30, 392, 41⟩) <| .nil) ⟨392, 15, 392, 42⟩) ⟨392, 8, 392, 42⟩) <|
  .cons (.asg "octets" 1 ⟨393, 8, 393, 14⟩ (.bin (.bin (.slU (.loc "octets" 1 ⟨393, 17, 393, 23⟩) (.loc "spot" 4 ⟨393, 25, 393, 29⟩) ⟨393, 24, 393, 29⟩ ⟨393, 17, 393, 30⟩) .Add (.blt .bytes ⟨393, 33, 393, 38⟩ (.cons (.lst (.cons (.sub (.con (.bytes [40, 41, 34, 59, 61, 47, 92, 32, 97]) 0 ⟨393, 40, 393, 53⟩) (.call "_law_draw" 449 ⟨393, 54, 393, 63⟩ (.cons (.loc "pot" 0 ⟨393, 64, 393, 67⟩) <| .cons (.con (.int 9) 0 ⟨393, 69, 393, 70⟩) <| .nil) ⟨393, 54, 393, 71⟩) ⟨393, 40, 393, 72⟩) <| .nil) ⟨393, 39, 393, 73⟩) <| .nil) ⟨393, 33, 393, 74⟩) ⟨393, 17, 393, 74⟩) .Add (.slL (.loc "octets" 1 ⟨393, 77, 393, 83⟩) (.bin (.loc "spot" 4 ⟨393, 84, 393, 88⟩) .Add (.con (.int 1) 0 ⟨393, 91, 393, 92⟩) ⟨393, 84, 393, 92⟩) ⟨393, 84, 393, 93⟩ ⟨393, 77, 393, 94⟩) ⟨393, 17, 393, 94⟩) ⟨393, 8, 393, 94⟩) <|
  .nil) (.nil) ⟨391, 4, 393, 94⟩) <|
  .nil) ⟨389, 4, 393, 94⟩) <|
  .cons (.ret (.loc "octets" 1 ⟨394, 11, 394, 17⟩) ⟨394, 4, 394, 17⟩) <|
  .nil
noncomputable def b_l_past : Ss :=
  .cons (.whl (.cmp (.loc "at" 1 ⟨396, 10, 396, 12⟩) .Lt (.blt .len ⟨396, 15, 396, 18⟩ (.cons (.loc "octets" 0 ⟨396, 19, 396, 25⟩) <| .nil) ⟨396, 15, 396, 26⟩) ⟨396, 10, 396, 26⟩) (.cons (.ite (.cmp (.sub (.loc "octets" 0 ⟨397, 11, 397, 17⟩) (.loc "at" 1 ⟨397, 18, 397, 20⟩) ⟨397, 11, 397, 21⟩) .In (.con (.bytes [32, 9, 13, 10]) 0 ⟨397, 25, 397, 35⟩) ⟨397, 11, 397, 35⟩) (.cons (.asg "at" 1 ⟨398, 12, 398, 14⟩ (.bin (.loc "at" 1 ⟨398, 17, 398, 19⟩) .Add (.con (.int 1) 0 ⟨398, 22, 398, 23⟩) ⟨398, 17, 398, 23⟩) ⟨398, 12, 398, 23⟩) <|
  .nil) (.cons (.ite (.cmp (.sub (.loc "octets" 0 ⟨399, 13, 399, 19⟩) (.loc "at" 1 ⟨399, 20, 399, 22⟩) ⟨399, 13, 399, 23⟩) .Eq (.con (.int 40) 0 ⟨399, 27, 399, 29⟩) ⟨399, 13, 399, 29⟩) (.cons (.asg "depth" 2 ⟨400, 12, 400, 17⟩ (.con (.int 1) 0 ⟨400, 20, 400, 21⟩) ⟨400, 12, 400, 21⟩) <|
  .cons (.asg "at" 1 ⟨401, 12, 401, 14⟩ (.bin (.loc "at" 1 ⟨401, 17, 401, 19⟩) .Add (.con (.int 1) 0 ⟨401, 22, 401, 23⟩) ⟨401, 17, 401, 23⟩) ⟨401, 12, 401, 23⟩) <|
  .cons (.whl (.cmp (.loc "depth" 2 ⟨402, 18, 402, 23⟩) .Gt (.con (.int 0) 0 ⟨402, 26, 402, 27⟩) ⟨402, 18, 402, 27⟩) (.cons (.ite (.or (.cmp (.loc "at" 1 ⟨403, 19, 403, 21⟩) .GtE (.blt .len ⟨403, 25, 403, 28⟩ (.cons (.loc "octets" 0 ⟨403, 29, 403, 35⟩) <| .nil) ⟨403, 25, 403, 36⟩) ⟨403, 19, 403, 36⟩) (.and (.cmp (.sub (.loc "octets" 0 ⟨403, 41, 403, 47⟩) (.loc "at" 1 ⟨403, 48, 403, 50⟩) ⟨403, 41, 403, 51⟩) .Eq (.con (.int 13) 0 ⟨403, 55, 403, 57⟩) ⟨403, 41, 403, 57⟩) (.cmp (.slLU (.loc "octets" 0 ⟨403, 62, 403, 68⟩) (.loc "at" 1 ⟨403, 69, 403, 71⟩) (.bin (.loc "at" 1 ⟨403, 72, 403, 74⟩) .Add (.con (.int 2) 0 ⟨403, 77, 403, 78⟩) ⟨403, 72, 403, 78⟩) ⟨403, 69, 403, 78⟩ ⟨403, 62, 403, 79⟩) .NotEq (.con (.bytes [13, 10]) 0 ⟨403, 83, 403, 90⟩) ⟨403, 62, 403, 90⟩) ⟨403, 41, 403, 90⟩) ⟨403, 19, 403, 91⟩) (.cons (.ret (.con .none 0 ⟨404, 27, 404, 31⟩) ⟨404, 20, 404, 31⟩) <|
  .nil) (.nil) ⟨403, 16, 404, 31⟩) <|
  .cons (.ite (.cmp (.sub (.loc "octets" 0 ⟨405, 19, 405, 25⟩) (.loc "at" 1 ⟨405, 26, 405, 28⟩) ⟨405, 19, 405, 29⟩) .Eq (.con (.int 92) 0 ⟨405, 33, 405, 35⟩) ⟨405, 19, 405, 35⟩) (.cons (.asg "at" 1 ⟨406, 20, 406, 22⟩ (.bin (.loc "at" 1 ⟨406, 25, 406, 27⟩) .Add (.con (.int 1) 0 ⟨406, 30, 406, 31⟩) ⟨406, 25, 406, 31⟩) ⟨406, 20, 406, 31⟩) <|
  .cons (.ite (.cmp (.slLU (.loc "octets" 0 ⟨407, 23, 407, 29⟩) (.loc "at" 1 ⟨407, 30, 407, 32⟩) (.bin (.loc "at" 1 ⟨407, 33, 407, 35⟩) .Add (.con (.int 1) 0 ⟨407, 38, 407, 39⟩) ⟨407, 33, 407, 39⟩) ⟨407, 30, 407, 39⟩ ⟨407, 23, 407, 40⟩) .In (.tup (.cons (.con (.bytes []) 0 ⟨407, 45, 407, 48⟩) <| .cons (.con (.bytes [13]) 0 ⟨407, 50, 407, 55⟩) <| .cons (.con (.bytes [10]) 0 ⟨407, 57, 407, 62⟩) <| .nil) 0 ⟨407, 44, 407, 63⟩) ⟨407, 23, 407, 63⟩) (.cons (.ret (.con .none 0 ⟨408, 31, 408, 35⟩) ⟨408, 24, 408, 35⟩) <|
  .nil) (.nil) ⟨407, 20, 408, 35⟩) <|
  .nil) (.cons (.ite (.cmp (.sub (.loc "octets" 0 ⟨409, 21, 409, 27⟩) (.loc "at" 1 ⟨409, 28, 409, 30⟩) ⟨409, 21, 409, 31⟩) .Eq (.con (.int 40) 0 ⟨409, 35, 409, 37⟩) ⟨409, 21, 409, 37⟩) (.cons (.asg "depth" 2 ⟨410, 20, 410, 25⟩ (.bin (.loc "depth" 2 ⟨410, 28, 410, 33⟩) .Add (.con (.int 1) 0 ⟨410, 36, 410, 37⟩) ⟨410, 28, 410, 37⟩) ⟨410, 20, 410, 37⟩) <|
  .nil) (.cons (.ite (.cmp (.sub (.loc "octets" 0 ⟨411, 21, 411, 27⟩) (.loc "at" 1 ⟨411, 28, 411, 30⟩) ⟨411, 21, 411, 31⟩) .Eq (.con (.int 41) 0 ⟨411, 35, 411, 37⟩) ⟨411, 21, 411, 37⟩) (.cons (.asg "depth" 2 ⟨412, 20, 412, 25⟩ (.bin (.loc "depth" 2 ⟨412, 28, 412, 33⟩) .Sub (.con (.int 1) 0 ⟨412, 36, 412, 37⟩) ⟨412, 28, 412, 37⟩) ⟨412, 20, 412, 37⟩) <|
  .nil) (.nil) ⟨411, 16, 412, 37⟩) <|
  .nil) ⟨409, 16, 412, 37⟩) <|
  .nil) ⟨405, 16, 412, 37⟩) <|
  .cons (.asg "at" 1 ⟨413, 16, 413, 18⟩ (.bin (.loc "at" 1 ⟨413, 21, 413, 23⟩) .Add (.con (.int 1) 0 ⟨413, 26, 413, 27⟩) ⟨413, 21, 413, 27⟩) ⟨413, 16, 413, 27⟩) <|
  .nil) ⟨402, 12, 413, 27⟩) <|
  .nil) (.cons (.ret (.loc "at" 1 ⟨415, 19, 415, 21⟩) ⟨415, 12, 415, 21⟩) <|
  .nil) ⟨399, 8, 415, 21⟩) <|
  .nil) ⟨397, 8, 415, 21⟩) <|
  .nil) ⟨396, 4, 415, 21⟩) <|
  .cons (.ret (.loc "at" 1 ⟨416, 11, 416, 13⟩) ⟨416, 4, 416, 13⟩) <|
  .nil
noncomputable def b_l_run : Ss :=
  .cons (.asg "end" 3 ⟨418, 4, 418, 7⟩ (.loc "at" 1 ⟨418, 10, 418, 12⟩) ⟨418, 4, 418, 12⟩) <|
  .cons (.whl (.and (.cmp (.loc "end" 3 ⟨419, 10, 419, 13⟩) .Lt (.blt .len ⟨419, 16, 419, 19⟩ (.cons (.loc "octets" 0 ⟨419, 20, 419, 26⟩) <| .nil) ⟨419, 16, 419, 27⟩) ⟨419, 10, 419, 27⟩) (.or (.and (.cmp2 (.con (.int 32) 0 ⟨419, 33, 419, 35⟩) .Lt (.sub (.loc "octets" 0 ⟨419, 38, 419, 44⟩) (.loc "end" 3 ⟨419, 45, 419, 48⟩) ⟨419, 38, 419, 49⟩) .Lt (.con (.int 127) 0 ⟨419, 52, 419, 55⟩) ⟨419, 33, 419, 55⟩) (.cmp (.sub (.loc "octets" 0 ⟨419, 60, 419, 66⟩) (.loc "end" 3 ⟨419, 67, 419, 70⟩) ⟨419, 60, 419, 71⟩) .NotIn (.con (.bytes [40, 41, 60, 62, 64, 44, 59, 58, 92, 34, 47, 91, 93, 63, 61]) 0 ⟨419, 79, 419, 98⟩) ⟨419, 60, 419, 98⟩) ⟨419, 33, 419, 98⟩) (.and (.loc "beyond" 2 ⟨419, 103, 419, 109⟩) (.cmp (.sub (.loc "octets" 0 ⟨419, 114, 419, 120⟩) (.loc "end" 3 ⟨419, 121, 419, 124⟩) ⟨419, 114, 419, 125⟩) .Gt (.con (.int 127) 0 ⟨419, 128, 419, 131⟩) ⟨419, 114, 419, 131⟩) ⟨419, 103, 419, 131⟩) ⟨419, 33, 419, 132⟩) ⟨419, 10, 419, 133⟩) (.cons (.asg "end" 3 ⟨420, 8, 420, 11⟩ (.bin (.loc "end" 3 ⟨420, 14, 420, 17⟩) .Add (.con (.int 1) 0 ⟨420, 20, 420, 21⟩) ⟨420, 14, 420, 21⟩) ⟨420, 8, 420, 21⟩) <|
  .nil) ⟨419, 4, 420, 21⟩) <|
  .cons (.ret (.ife (.cmp (.loc "end" 3 ⟨421, 19, 421, 22⟩) .Eq (.loc "at" 1 ⟨421, 26, 421, 28⟩) ⟨421, 19, 421, 28⟩) (.con .none 0 ⟨421, 11, 421, 15⟩) (.loc "end" 3 ⟨421, 34, 421, 37⟩) ⟨421, 11, 421, 37⟩) ⟨421, 4, 421, 37⟩) <|
  .nil
noncomputable def b_l_quoted : Ss :=
  .cons (.asg "found" 2 ⟨423, 4, 423, 9⟩ (.con (.bytes []) 0 ⟨423, 12, 423, 15⟩) ⟨423, 4, 423, 15⟩) <|
  .cons (.asg "at" 1 ⟨424, 4, 424, 6⟩ (.bin (.loc "at" 1 ⟨424, 9, 424, 11⟩) .Add (.con (.int 1) 0 ⟨424, 14, 424, 15⟩) ⟨424, 9, 424, 15⟩) ⟨424, 4, 424, 15⟩) <|
  .cons (.whl (.and (.cmp (.loc "at" 1 ⟨425, 10, 425, 12⟩) .Lt (.blt .len ⟨425, 15, 425, 18⟩ (.cons (.loc "octets" 0 ⟨425, 19, 425, 25⟩) <| .nil) ⟨425, 15, 425, 26⟩) ⟨425, 10, 425, 26⟩) (.cmp (.sub (.loc "octets" 0 ⟨425, 31, 425, 37⟩) (.loc "at" 1 ⟨425, 38, 425, 40⟩) ⟨425, 31, 425, 41⟩) .NotEq (.con (.int 34) 0 ⟨425, 45, 425, 47⟩) ⟨425, 31, 425, 47⟩) ⟨425, 10, 425, 47⟩) (.cons (.ite (.cmp (.sub (.loc "octets" 0 ⟨426, 11, 426, 17⟩) (.loc "at" 1 ⟨426, 18, 426, 20⟩) ⟨426, 11, 426, 21⟩) .Eq (.con (.int 92) 0 ⟨426, 25, 426, 27⟩) ⟨426, 11, 426, 27⟩) (.cons (.asg "at" 1 ⟨427, 12, 427, 14⟩ (.bin (.loc "at" 1 ⟨427, 17, 427, 19⟩) .Add (.con (.int 1) 0 ⟨427, 22, 427, 23⟩) ⟨427, 17, 427, 23⟩) ⟨427, 12, 427, 23⟩) <|
  .cons (.ite (.or (.cmp (.loc "at" 1 ⟨428, 15, 428, 17⟩) .Eq (.blt .len ⟨428, 21, 428, 24⟩ (.cons (.loc "octets" 0 ⟨428, 25, 428, 31⟩) <| .nil) ⟨428, 21, 428, 32⟩) ⟨428, 15, 428, 32⟩) (.cmp (.sub (.loc "octets" 0 ⟨428, 36, 428, 42⟩) (.loc "at" 1 ⟨428, 43, 428, 45⟩) ⟨428, 36, 428, 46⟩) .In (.con (.bytes [13, 10]) 0 ⟨428, 50, 428, 57⟩) ⟨428, 36, 428, 57⟩) ⟨428, 15, 428, 57⟩) (.cons (.ret (.con .none 0 ⟨429, 23, 429, 27⟩) ⟨429, 16, 429, 27⟩) <|
  .nil) (.nil) ⟨428, 12, 429, 27⟩) <|
  .nil) (.cons (.ite (.or (.cmp (.slLU (.loc "octets" 0 ⟨430, 13, 430, 19⟩) (.loc "at" 1 ⟨430, 20, 430, 22⟩) (.bin (.loc "at" 1 ⟨430, 23, 430, 25⟩) .Add (.con (.int 2) 0 ⟨430, 28, 430, 29⟩) ⟨430, 23, 430, 29⟩) ⟨430, 20, 430, 29⟩ ⟨430, 13, 430, 30⟩) .Eq (.con (.bytes [13, 10]) 0 ⟨430, 34, 430, 41⟩) ⟨430, 13, 430, 41⟩) (.cmp (.sub (.loc "octets" 0 ⟨430, 45, 430, 51⟩) (.loc "at" 1 ⟨430, 52, 430, 54⟩) ⟨430, 45, 430, 55⟩) .Eq (.con (.int 10) 0 ⟨430, 59, 430, 61⟩) ⟨430, 45, 430, 61⟩) ⟨430, 13, 430, 61⟩) (.cons (.asg "at" 1 ⟨431, 12, 431, 14⟩ (.bin (.loc "at" 1 ⟨431, 17, 431, 19⟩) .Add (.ife (.cmp (.sub (.loc "octets" 0 ⟨431, 28, 431, 34⟩) (.loc "at" 1 ⟨431, 35, 431, 37⟩) ⟨431, 28, 431, 38⟩) .Eq (.con (.int 13) 0 ⟨431, 42, 431, 44⟩) ⟨431, 28, 431, 44⟩) (.con (.int 2) 0 ⟨431, 23, 431, 24⟩) (.con (.int 1) 0 ⟨431, 50, 431, 51⟩) ⟨431, 23, 431, 51⟩) ⟨431, 17, 431, 52⟩) ⟨431, 12, 431, 52⟩) <|
  .cons (.cont ⟨432, 12, 432, 20⟩) <|
  .nil) (.cons (.ite (.cmp (.sub (.loc "octets" 0 ⟨433, 13, 433, 19⟩) (.loc "at" 1 ⟨433, 20, 433, 22⟩) ⟨433, 13, 433, 23⟩) .Eq (.con (.int 13) 0 ⟨433, 27, 433, 29⟩) ⟨433, 13, 433, 29⟩) (.cons (.ret (.con .none 0 ⟨434, 19, 434, 23⟩) ⟨434, 12, 434, 23⟩) <|
  .nil) (.nil) ⟨433, 8, 434, 23⟩) <|
  .nil) ⟨430, 8, 434, 23⟩) <|
  .nil) ⟨426, 8, 434, 23⟩) <|
  .cons (.asg "found" 2 ⟨435, 8, 435, 13⟩ (.bin (.loc "found" 2 ⟨435, 16, 435, 21⟩) .Add (.slLU (.loc "octets" 0 ⟨435, 24, 435, 30⟩) (.loc "at" 1 ⟨435, 31, 435, 33⟩) (.bin (.loc "at" 1 ⟨435, 34, 435, 36⟩) .Add (.con (.int 1) 0 ⟨435, 39, 435, 40⟩) ⟨435, 34, 435, 40⟩) ⟨435, 31, 435, 40⟩ ⟨435, 24, 435, 41⟩) ⟨435, 16, 435, 41⟩) ⟨435, 8, 435, 41⟩) <|
  .cons (.asg "at" 1 ⟨436, 8, 436, 10⟩ (.bin (.loc "at" 1 ⟨436, 13, 436, 15⟩) .Add (.con (.int 1) 0 ⟨436, 18, 436, 19⟩) ⟨436, 13, 436, 19⟩) ⟨436, 8, 436, 19⟩) <|
  .nil) ⟨425, 4, 436, 19⟩) <|
  .cons (.ret (.ife (.cmp (.loc "at" 1 ⟨437, 19, 437, 21⟩) .GtE (.blt .len ⟨437, 25, 437, 28⟩ (.cons (.loc "octets" 0 ⟨437, 29, 437, 35⟩) <| .nil) ⟨437, 25, 437, 36⟩) ⟨437, 19, 437, 36⟩) (.con .none 0 ⟨437, 11, 437, 15⟩) (.tup (.cons (.loc "found" 2 ⟨437, 43, 437, 48⟩) <| .cons (.bin (.loc "at" 1 ⟨437, 50, 437, 52⟩) .Add (.con (.int 1) 0 ⟨437, 55, 437, 56⟩) ⟨437, 50, 437, 56⟩) <| .nil) 0 ⟨437, 42, 437, 57⟩) ⟨437, 11, 437, 57⟩) ⟨437, 4, 437, 57⟩) <|
  .nil
noncomputable def b_l_text : Ss :=
  .cons (.ite (.cmp (.loc "octets" 0 ⟨439, 7, 439, 13⟩) .Eq (.con (.bytes [233]) 0 ⟨439, 17, 439, 24⟩) ⟨439, 7, 439, 24⟩) (.cons (.ret (.con (.str (Str.mk #[233])) 0 ⟨440, 15, 440, 19⟩) ⟨440, 8, 440, 19⟩) <|
  .nil) (.nil) ⟨439, 4, 440, 19⟩) <|
  .cons (.ite (.cmp (.loc "octets" 0 ⟨441, 7, 441, 13⟩) .Eq (.con (.bytes [195, 169]) 0 ⟨441, 17, 441, 28⟩) ⟨441, 7, 441, 28⟩) (.cons (.ret (.con (.str (Str.mk #[233])) 0 ⟨442, 15, 442, 19⟩) ⟨442, 8, 442, 19⟩) <|
  .nil) (.nil) ⟨441, 4, 442, 19⟩) <|
  .cons (.ite (.comc (.loc "code" 0 ⟨443, 8, 443, 12⟩) "code" ⟨443, 17, 443, 21⟩ (.loc "octets" 0 ⟨443, 25, 443, 31⟩) (.cmp (.loc "code" 0 ⟨443, 35, 443, 39⟩) .Gt (.con (.int 127) 0 ⟨443, 42, 443, 45⟩) ⟨443, 35, 443, 45⟩) { kind := .function, names := [(".0", .local), ("code", .local)], isGenerator := false, isCoroutine := false } ⟨443, 7, 443, 46⟩) (.cons (.ret (.con .none 0 ⟨444, 15, 444, 19⟩) ⟨444, 8, 444, 19⟩) <|
  .nil) (.nil) ⟨443, 4, 444, 19⟩) <|
  .cons (.ret (.joi (.con (.str "") 0 ⟨445, 11, 445, 13⟩) (.com (.blt .chr ⟨445, 20, 445, 23⟩ (.cons (.loc "code" 0 ⟨445, 24, 445, 28⟩) <| .nil) ⟨445, 20, 445, 29⟩) "code" ⟨445, 34, 445, 38⟩ (.loc "octets" 0 ⟨445, 42, 445, 48⟩) { kind := .function, names := [(".0", .local), ("code", .local), ("chr", .globalImplicit)], isGenerator := false, isCoroutine := false } ⟨445, 19, 445, 49⟩) ⟨445, 11, 445, 18⟩ ⟨445, 11, 445, 50⟩) ⟨445, 4, 445, 50⟩) <|
  .nil
noncomputable def b_l_small : Ss :=
  .cons (.ret (.joi (.con (.str "") 0 ⟨447, 11, 447, 13⟩) (.com (.blt .chr ⟨447, 20, 447, 23⟩ (.cons (.ife (.cmp2 (.con (.int 65) 0 ⟨447, 37, 447, 39⟩) .LtE (.loc "code" 0 ⟨447, 43, 447, 47⟩) .LtE (.con (.int 90) 0 ⟨447, 51, 447, 53⟩) ⟨447, 37, 447, 53⟩) (.bin (.loc "code" 0 ⟨447, 24, 447, 28⟩) .Add (.con (.int 32) 0 ⟨447, 31, 447, 33⟩) ⟨447, 24, 447, 33⟩) (.loc "code" 0 ⟨447, 59, 447, 63⟩) ⟨447, 24, 447, 63⟩) <| .nil) ⟨447, 20, 447, 64⟩) "code" ⟨447, 69, 447, 73⟩ (.loc "octets" 0 ⟨447, 77, 447, 83⟩) { kind := .function, names := [(".0", .local), ("code", .local), ("chr", .globalImplicit)], isGenerator := false, isCoroutine := false } ⟨447, 19, 447, 84⟩) ⟨447, 11, 447, 18⟩ ⟨447, 11, 447, 85⟩) ⟨447, 4, 447, 85⟩) <|
  .nil
noncomputable def b_l_read : Ss :=
  .cons (.asg "at" 2 ⟨449, 4, 449, 6⟩ (.call "_law_past" 498 ⟨449, 9, 449, 18⟩ (.cons (.loc "octets" 0 ⟨449, 19, 449, 25⟩) <| .cons (.con (.int 0) 0 ⟨449, 27, 449, 28⟩) <| .nil) ⟨449, 9, 449, 29⟩) ⟨449, 4, 449, 29⟩) <|
  .cons (.asg "found" 3 ⟨450, 4, 450, 9⟩ (.lst (.nil) ⟨450, 12, 450, 14⟩) ⟨450, 4, 450, 14⟩) <|
  .cons (.forR "turn" 4 ⟨451, 8, 451, 12⟩ ⟨451, 16, 451, 21⟩ (.cons (.loc "words" 1 ⟨451, 22, 451, 27⟩) <| .nil) ⟨451, 16, 451, 28⟩ (.cons (.ite (.or (.cmp (.loc "at" 2 ⟨452, 11, 452, 13⟩) .Is (.con .none 0 ⟨452, 17, 452, 21⟩) ⟨452, 11, 452, 21⟩) (.and (.cmp (.loc "turn" 4 ⟨452, 26, 452, 30⟩) .Gt (.con (.int 0) 0 ⟨452, 33, 452, 34⟩) ⟨452, 26, 452, 34⟩) (.cmp (.slLU (.loc "octets" 0 ⟨452, 39, 452, 45⟩) (.loc "at" 2 ⟨452, 46, 452, 48⟩) (.bin (.loc "at" 2 ⟨452, 49, 452, 51⟩) .Add (.con (.int 1) 0 ⟨452, 54, 452, 55⟩) ⟨452, 49, 452, 55⟩) ⟨452, 46, 452, 55⟩ ⟨452, 39, 452, 56⟩) .NotEq (.con (.bytes [47]) 0 ⟨452, 60, 452, 64⟩) ⟨452, 39, 452, 64⟩) ⟨452, 26, 452, 64⟩) ⟨452, 11, 452, 65⟩) (.cons (.ret (.con .none 0 ⟨453, 19, 453, 23⟩) ⟨453, 12, 453, 23⟩) <|
  .nil) (.nil) ⟨452, 8, 453, 23⟩) <|
  .cons (.asg "at" 2 ⟨454, 8, 454, 10⟩ (.ife (.cmp (.loc "turn" 4 ⟨454, 19, 454, 23⟩) .Eq (.con (.int 0) 0 ⟨454, 27, 454, 28⟩) ⟨454, 19, 454, 28⟩) (.loc "at" 2 ⟨454, 13, 454, 15⟩) (.call "_law_past" 498 ⟨454, 34, 454, 43⟩ (.cons (.loc "octets" 0 ⟨454, 44, 454, 50⟩) <| .cons (.bin (.loc "at" 2 ⟨454, 52, 454, 54⟩) .Add (.con (.int 1) 0 ⟨454, 57, 454, 58⟩) ⟨454, 52, 454, 58⟩) <| .nil) ⟨454, 34, 454, 59⟩) ⟨454, 13, 454, 59⟩) ⟨454, 8, 454, 59⟩) <|
  .cons (.asg "end" 5 ⟨455, 8, 455, 11⟩ (.ife (.cmp (.loc "at" 2 ⟨455, 22, 455, 24⟩) .Is (.con .none 0 ⟨455, 28, 455, 32⟩) ⟨455, 22, 455, 32⟩) (.con .none 0 ⟨455, 14, 455, 18⟩) (.call "_law_run" 505 ⟨455, 38, 455, 46⟩ (.cons (.loc "octets" 0 ⟨455, 47, 455, 53⟩) <| .cons (.loc "at" 2 ⟨455, 55, 455, 57⟩) <| .cons (.con (.bool false) 0 ⟨455, 59, 455, 64⟩) <| .nil) ⟨455, 38, 455, 65⟩) ⟨455, 14, 455, 65⟩) ⟨455, 8, 455, 65⟩) <|
  .cons (.ite (.cmp (.loc "end" 5 ⟨456, 11, 456, 14⟩) .Is (.con .none 0 ⟨456, 18, 456, 22⟩) ⟨456, 11, 456, 22⟩) (.cons (.ret (.con .none 0 ⟨457, 19, 457, 23⟩) ⟨457, 12, 457, 23⟩) <|
  .nil) (.nil) ⟨456, 8, 457, 23⟩) <|
  .cons (.exp (.app (.loc "found" 3 ⟨458, 8, 458, 13⟩) (.call "_law_small" 522 ⟨458, 21, 458, 31⟩ (.cons (.slLU (.loc "octets" 0 ⟨458, 32, 458, 38⟩) (.loc "at" 2 ⟨458, 39, 458, 41⟩) (.loc "end" 5 ⟨458, 42, 458, 45⟩) ⟨458, 39, 458, 45⟩ ⟨458, 32, 458, 46⟩) <| .nil) ⟨458, 21, 458, 47⟩) ⟨458, 8, 458, 20⟩ ⟨458, 8, 458, 48⟩) ⟨458, 8, 458, 48⟩) <|
  .cons (.asg "at" 2 ⟨459, 8, 459, 10⟩ (.call "_law_past" 498 ⟨459, 13, 459, 22⟩ (.cons (.loc "octets" 0 ⟨459, 23, 459, 29⟩) <| .cons (.loc "end" 5 ⟨459, 31, 459, 34⟩) <| .nil) ⟨459, 13, 459, 35⟩) ⟨459, 8, 459, 35⟩) <|
  .nil) ⟨451, 4, 459, 35⟩) <|
  .cons (.asg "params" 6 ⟨460, 4, 460, 10⟩ (.dic0 ⟨460, 13, 460, 15⟩) ⟨460, 4, 460, 15⟩) <|
  .cons (.whl (.and (.cmp (.loc "at" 2 ⟨461, 10, 461, 12⟩) .IsNot (.con .none 0 ⟨461, 20, 461, 24⟩) ⟨461, 10, 461, 24⟩) (.cmp (.loc "at" 2 ⟨461, 29, 461, 31⟩) .Lt (.blt .len ⟨461, 34, 461, 37⟩ (.cons (.loc "octets" 0 ⟨461, 38, 461, 44⟩) <| .nil) ⟨461, 34, 461, 45⟩) ⟨461, 29, 461, 45⟩) ⟨461, 10, 461, 45⟩) (.cons (.ite (.cmp (.sub (.loc "octets" 0 ⟨462, 11, 462, 17⟩) (.loc "at" 2 ⟨462, 18, 462, 20⟩) ⟨462, 11, 462, 21⟩) .NotEq (.con (.int 59) 0 ⟨462, 25, 462, 27⟩) ⟨462, 11, 462, 27⟩) (.cons (.ret (.con .none 0 ⟨463, 19, 463, 23⟩) ⟨463, 12, 463, 23⟩) <|
  .nil) (.nil) ⟨462, 8, 463, 23⟩) <|
  .cons (.asg "at" 2 ⟨464, 8, 464, 10⟩ (.call "_law_past" 498 ⟨464, 13, 464, 22⟩ (.cons (.loc "octets" 0 ⟨464, 23, 464, 29⟩) <| .cons (.bin (.loc "at" 2 ⟨464, 31, 464, 33⟩) .Add (.con (.int 1) 0 ⟨464, 36, 464, 37⟩) ⟨464, 31, 464, 37⟩) <| .nil) ⟨464, 13, 464, 38⟩) ⟨464, 8, 464, 38⟩) <|
  .cons (.ite (.cmp (.loc "at" 2 ⟨465, 11, 465, 13⟩) .Is (.con .none 0 ⟨465, 17, 465, 21⟩) ⟨465, 11, 465, 21⟩) (.cons (.ret (.con .none 0 ⟨466, 19, 466, 23⟩) ⟨466, 12, 466, 23⟩) <|
  .nil) (.nil) ⟨465, 8, 466, 23⟩) <|
  .cons (.ite (.or (.cmp (.loc "at" 2 ⟨467, 11, 467, 13⟩) .Eq (.blt .len ⟨467, 17, 467, 20⟩ (.cons (.loc "octets" 0 ⟨467, 21, 467, 27⟩) <| .nil) ⟨467, 17, 467, 28⟩) ⟨467, 11, 467, 28⟩) (.cmp (.sub (.loc "octets" 0 ⟨467, 32, 467, 38⟩) (.loc "at" 2 ⟨467, 39, 467, 41⟩) ⟨467, 32, 467, 42⟩) .Eq (.con (.int 59) 0 ⟨467, 46, 467, 48⟩) ⟨467, 32, 467, 48⟩) ⟨467, 11, 467, 48⟩) (.cons (.cont ⟨468, 12, 468, 20⟩) <|
  .nil) (.nil) ⟨467, 8, 468, 20⟩) <|
  .cons (.asg "end" 5 ⟨469, 8, 469, 11⟩ (.call "_law_run" 505 ⟨469, 14, 469, 22⟩ (.cons (.loc "octets" 0 ⟨469, 23, 469, 29⟩) <| .cons (.loc "at" 2 ⟨469, 31, 469, 33⟩) <| .cons (.con (.bool false) 0 ⟨469, 35, 469, 40⟩) <| .nil) ⟨469, 14, 469, 41⟩) ⟨469, 8, 469, 41⟩) <|
  .cons (.ite (.cmp (.loc "end" 5 ⟨470, 11, 470, 14⟩) .Is (.con .none 0 ⟨470, 18, 470, 22⟩) ⟨470, 11, 470, 22⟩) (.cons (.ret (.con .none 0 ⟨471, 19, 471, 23⟩) ⟨471, 12, 471, 23⟩) <|
  .nil) (.nil) ⟨470, 8, 471, 23⟩) <|
  .cons (.asg "name" 7 ⟨472, 8, 472, 12⟩ (.call "_law_small" 522 ⟨472, 15, 472, 25⟩ (.cons (.slLU (.loc "octets" 0 ⟨472, 26, 472, 32⟩) (.loc "at" 2 ⟨472, 33, 472, 35⟩) (.loc "end" 5 ⟨472, 36, 472, 39⟩) ⟨472, 33, 472, 39⟩ ⟨472, 26, 472, 40⟩) <| .nil) ⟨472, 15, 472, 41⟩) ⟨472, 8, 472, 41⟩) <|
  .cons (.asg "at" 2 ⟨473, 8, 473, 10⟩ (.call "_law_past" 498 ⟨473, 13, 473, 22⟩ (.cons (.loc "octets" 0 ⟨473, 23, 473, 29⟩) <| .cons (.loc "end" 5 ⟨473, 31, 473, 34⟩) <| .nil) ⟨473, 13, 473, 35⟩) ⟨473, 8, 473, 35⟩) <|
  .cons (.ite (.or (.cmp (.loc "at" 2 ⟨474, 11, 474, 13⟩) .Is (.con .none 0 ⟨474, 17, 474, 21⟩) ⟨474, 11, 474, 21⟩) (.cmp (.slLU (.loc "octets" 0 ⟨474, 25, 474, 31⟩) (.loc "at" 2 ⟨474, 32, 474, 34⟩) (.bin (.loc "at" 2 ⟨474, 35, 474, 37⟩) .Add (.con (.int 1) 0 ⟨474, 40, 474, 41⟩) ⟨474, 35, 474, 41⟩) ⟨474, 32, 474, 41⟩ ⟨474, 25, 474, 42⟩) .NotEq (.con (.bytes [61]) 0 ⟨474, 46, 474, 50⟩) ⟨474, 25, 474, 50⟩) ⟨474, 11, 474, 50⟩) (.cons (.ret (.con .none 0 ⟨475, 19, 475, 23⟩) ⟨475, 12, 475, 23⟩) <|
  .nil) (.nil) ⟨474, 8, 475, 23⟩) <|
  .cons (.asg "at" 2 ⟨476, 8, 476, 10⟩ (.call "_law_past" 498 ⟨476, 13, 476, 22⟩ (.cons (.loc "octets" 0 ⟨476, 23, 476, 29⟩) <| .cons (.bin (.loc "at" 2 ⟨476, 31, 476, 33⟩) .Add (.con (.int 1) 0 ⟨476, 36, 476, 37⟩) ⟨476, 31, 476, 37⟩) <| .nil) ⟨476, 13, 476, 38⟩) ⟨476, 8, 476, 38⟩) <|
  .cons (.ite (.or (.cmp (.loc "at" 2 ⟨477, 11, 477, 13⟩) .Is (.con .none 0 ⟨477, 17, 477, 21⟩) ⟨477, 11, 477, 21⟩) (.cmp (.loc "at" 2 ⟨477, 25, 477, 27⟩) .Eq (.blt .len ⟨477, 31, 477, 34⟩ (.cons (.loc "octets" 0 ⟨477, 35, 477, 41⟩) <| .nil) ⟨477, 31, 477, 42⟩) ⟨477, 25, 477, 42⟩) ⟨477, 11, 477, 42⟩) (.cons (.ret (.con .none 0 ⟨478, 19, 478, 23⟩) ⟨478, 12, 478, 23⟩) <|
  .nil) (.nil) ⟨477, 8, 478, 23⟩) <|
  .cons (.ite (.cmp (.sub (.loc "octets" 0 ⟨479, 11, 479, 17⟩) (.loc "at" 2 ⟨479, 18, 479, 20⟩) ⟨479, 11, 479, 21⟩) .Eq (.con (.int 34) 0 ⟨479, 25, 479, 27⟩) ⟨479, 11, 479, 27⟩) (.cons (.asg "heard" 8 ⟨480, 12, 480, 17⟩ (.call "_law_quoted" 512 ⟨480, 20, 480, 31⟩ (.cons (.loc "octets" 0 ⟨480, 32, 480, 38⟩) <| .cons (.loc "at" 2 ⟨480, 40, 480, 42⟩) <| .nil) ⟨480, 20, 480, 43⟩) ⟨480, 12, 480, 43⟩) <|
  .cons (.ite (.cmp (.loc "heard" 8 ⟨481, 15, 481, 20⟩) .Is (.con .none 0 ⟨481, 24, 481, 28⟩) ⟨481, 15, 481, 28⟩) (.cons (.ret (.con .none 0 ⟨482, 23, 482, 27⟩) ⟨482, 16, 482, 27⟩) <|
  .nil) (.nil) ⟨481, 12, 482, 27⟩) <|
  .cons (.asg2 "worth" 9 ⟨483, 12, 483, 17⟩ "at" 2 ⟨483, 19, 483, 21⟩ 0 ⟨483, 12, 483, 21⟩ (.loc "heard" 8 ⟨483, 24, 483, 29⟩) ⟨483, 12, 483, 29⟩) <|
  .nil) (.cons (.asg "end" 5 ⟨485, 12, 485, 15⟩ (.call "_law_run" 505 ⟨485, 18, 485, 26⟩ (.cons (.loc "octets" 0 ⟨485, 27, 485, 33⟩) <| .cons (.loc "at" 2 ⟨485, 35, 485, 37⟩) <| .cons (.con (.bool true) 0 ⟨485, 39, 485, 43⟩) <| .nil) ⟨485, 18, 485, 44⟩) ⟨485, 12, 485, 44⟩) <|
  .cons (.ite (.cmp (.loc "end" 5 ⟨486, 15, 486, 18⟩) .Is (.con .none 0 ⟨486, 22, 486, 26⟩) ⟨486, 15, 486, 26⟩) (.cons (.ret (.con .none 0 ⟨487, 23, 487, 27⟩) ⟨487, 16, 487, 27⟩) <|
  .nil) (.nil) ⟨486, 12, 487, 27⟩) <|
  .cons (.asg "worth" 9 ⟨488, 12, 488, 17⟩ (.slLU (.loc "octets" 0 ⟨488, 20, 488, 26⟩) (.loc "at" 2 ⟨488, 27, 488, 29⟩) (.loc "end" 5 ⟨488, 30, 488, 33⟩) ⟨488, 27, 488, 33⟩ ⟨488, 20, 488, 34⟩) ⟨488, 12, 488, 34⟩) <|
  .cons (.asg "at" 2 ⟨489, 12, 489, 14⟩ (.loc "end" 5 ⟨489, 17, 489, 20⟩) ⟨489, 12, 489, 20⟩) <|
  .nil) ⟨479, 8, 489, 20⟩) <|
  .cons (.ite (.cmp (.loc "name" 7 ⟨490, 11, 490, 15⟩) .NotIn (.loc "params" 6 ⟨490, 23, 490, 29⟩) ⟨490, 11, 490, 29⟩) (.cons (.sst (.loc "params" 6 ⟨491, 12, 491, 18⟩) (.loc "name" 7 ⟨491, 19, 491, 23⟩) ⟨491, 12, 491, 24⟩ (.loc "worth" 9 ⟨491, 27, 491, 32⟩) ⟨491, 12, 491, 32⟩) <|
  .nil) (.nil) ⟨490, 8, 491, 32⟩) <|
  .cons (.asg "at" 2 ⟨492, 8, 492, 10⟩ (.call "_law_past" 498 ⟨492, 13, 492, 22⟩ (.cons (.loc "octets" 0 ⟨492, 23, 492, 29⟩) <| .cons (.loc "at" 2 ⟨492, 31, 492, 33⟩) <| .nil) ⟨492, 13, 492, 34⟩) ⟨492, 8, 492, 34⟩) <|
  .nil) ⟨461, 4, 492, 34⟩) <|
  .cons (.ret (.ife (.cmp (.loc "at" 2 ⟨493, 19, 493, 21⟩) .Is (.con .none 0 ⟨493, 25, 493, 29⟩) ⟨493, 19, 493, 29⟩) (.con .none 0 ⟨493, 11, 493, 15⟩) (.tup (.cons (.loc "found" 3 ⟨493, 36, 493, 41⟩) <| .cons (.loc "params" 6 ⟨493, 43, 493, 49⟩) <| .nil) 0 ⟨493, 35, 493, 50⟩) ⟨493, 11, 493, 50⟩) ⟨493, 4, 493, 50⟩) <|
  .nil
noncomputable def b_l_alike : Ss :=
  .cons (.ite (.cmp (.blt .sorted ⟨495, 7, 495, 13⟩ (.cons (.loc "params" 0 ⟨495, 14, 495, 20⟩) <| .nil) ⟨495, 7, 495, 21⟩) .NotEq (.blt .sorted ⟨495, 25, 495, 31⟩ (.cons (.loc "due" 1 ⟨495, 32, 495, 35⟩) <| .nil) ⟨495, 25, 495, 36⟩) ⟨495, 7, 495, 36⟩) (.cons (.ret (.con (.bool false) 0 ⟨496, 15, 496, 20⟩) ⟨496, 8, 496, 20⟩) <|
  .nil) (.nil) ⟨495, 4, 496, 20⟩) <|
  .cons (.ret (.cmp (.comc (.loc "name" 0 ⟨497, 12, 497, 16⟩) "name" ⟨497, 21, 497, 25⟩ (.loc "due" 1 ⟨497, 29, 497, 32⟩) (.and (.cmp (.call "_law_text" 517 ⟨497, 36, 497, 45⟩ (.cons (.sub (.loc "due" 2 ⟨497, 46, 497, 49⟩) (.loc "name" 0 ⟨497, 50, 497, 54⟩) ⟨497, 46, 497, 55⟩) <| .nil) ⟨497, 36, 497, 56⟩) .IsNot (.con .none 0 ⟨497, 64, 497, 68⟩) ⟨497, 36, 497, 68⟩) (.cmp (.sub (.loc "params" 1 ⟨497, 73, 497, 79⟩) (.loc "name" 0 ⟨497, 80, 497, 84⟩) ⟨497, 73, 497, 85⟩) .NotEq (.call "_law_text" 517 ⟨497, 89, 497, 98⟩ (.cons (.sub (.loc "due" 2 ⟨497, 99, 497, 102⟩) (.loc "name" 0 ⟨497, 103, 497, 107⟩) ⟨497, 99, 497, 108⟩) <| .nil) ⟨497, 89, 497, 109⟩) ⟨497, 73, 497, 109⟩) ⟨497, 36, 497, 109⟩) { kind := .function, names := [(".0", .local), ("name", .local), ("_law_text", .globalImplicit), ("due", .free), ("params", .free)], isGenerator := false, isCoroutine := false } ⟨497, 11, 497, 110⟩) .Eq (.lst (.nil) ⟨497, 114, 497, 116⟩) ⟨497, 11, 497, 116⟩) ⟨497, 4, 497, 116⟩) <|
  .nil
noncomputable def b_law : Ss :=
  .cons (.asg "pot" 1 ⟨499, 4, 499, 7⟩ (.call "_law_pot" 442 ⟨499, 10, 499, 18⟩ (.cons (.loc "script" 0 ⟨499, 19, 499, 25⟩) <| .nil) ⟨499, 10, 499, 26⟩) ⟨499, 4, 499, 26⟩) <|
  .cons (.asg "octets" 2 ⟨500, 4, 500, 10⟩ (.call "_law_octets" 491 ⟨500, 13, 500, 24⟩ (.cons (.loc "pot" 1 ⟨500, 25, 500, 28⟩) <| .nil) ⟨500, 13, 500, 29⟩) ⟨500, 4, 500, 29⟩) <|
  .cons (.asg "due" 3 ⟨501, 4, 501, 7⟩ (.call "_law_read" 529 ⟨501, 10, 501, 19⟩ (.cons (.loc "octets" 2 ⟨501, 20, 501, 26⟩) <| .cons (.con (.int 1) 0 ⟨501, 28, 501, 29⟩) <| .nil) ⟨501, 10, 501, 30⟩) ⟨501, 4, 501, 30⟩) <|
  .cons (.tr (.cons (.asg "heard" 4 ⟨503, 8, 503, 13⟩ (.call "read_value" 423 ⟨503, 16, 503, 26⟩ (.cons (.loc "octets" 2 ⟨503, 27, 503, 33⟩) <| .nil) ⟨503, 16, 503, 34⟩) ⟨503, 8, 503, 34⟩) <|
  .nil) "WordFault" 59 ⟨504, 11, 504, 20⟩ (.cons (.asg "heard" 4 ⟨505, 8, 505, 13⟩ (.con .none 0 ⟨505, 16, 505, 20⟩) ⟨505, 8, 505, 20⟩) <|
  .nil) ⟨504, 4, 505, 20⟩ ⟨502, 4, 505, 20⟩) <|
  .cons (.ite (.cmp (.cmp (.loc "heard" 4 ⟨506, 8, 506, 13⟩) .Is (.con .none 0 ⟨506, 17, 506, 21⟩) ⟨506, 8, 506, 21⟩) .NotEq (.cmp (.loc "due" 3 ⟨506, 27, 506, 30⟩) .Is (.con .none 0 ⟨506, 34, 506, 38⟩) ⟨506, 27, 506, 38⟩) ⟨506, 7, 506, 39⟩) (.cons (.ret (.con (.bool false) 0 ⟨507, 15, 507, 20⟩) ⟨507, 8, 507, 20⟩) <|
  .nil) (.nil) ⟨506, 4, 507, 20⟩) <|
  .cons (.ite (.and (.cmp (.loc "due" 3 ⟨508, 7, 508, 10⟩) .IsNot (.con .none 0 ⟨508, 18, 508, 22⟩) ⟨508, 7, 508, 22⟩) (.or (.cmp (.sub (.loc "heard" 4 ⟨508, 28, 508, 33⟩) (.con (.int 0) 0 ⟨508, 34, 508, 35⟩) ⟨508, 28, 508, 36⟩) .NotEq (.sub (.sub (.loc "due" 3 ⟨508, 40, 508, 43⟩) (.con (.int 0) 0 ⟨508, 44, 508, 45⟩) ⟨508, 40, 508, 46⟩) (.con (.int 0) 0 ⟨508, 47, 508, 48⟩) ⟨508, 40, 508, 49⟩) ⟨508, 28, 508, 49⟩) (.nt (.call "_law_alike" 534 ⟨508, 57, 508, 67⟩ (.cons (.sub (.loc "heard" 4 ⟨508, 68, 508, 73⟩) (.con (.int 1) 0 ⟨508, 74, 508, 75⟩) ⟨508, 68, 508, 76⟩) <| .cons (.sub (.loc "due" 3 ⟨508, 78, 508, 81⟩) (.con (.int 1) 0 ⟨508, 82, 508, 83⟩) ⟨508, 78, 508, 84⟩) <| .nil) ⟨508, 57, 508, 85⟩) ⟨508, 53, 508, 85⟩) ⟨508, 28, 508, 85⟩) ⟨508, 7, 508, 86⟩) (.cons (.ret (.con (.bool false) 0 ⟨509, 15, 509, 20⟩) ⟨509, 8, 509, 20⟩) <|
  .nil) (.nil) ⟨508, 4, 509, 20⟩) <|
  .cons (.asg "due" 3 ⟨510, 4, 510, 7⟩ (.call "_law_read" 529 ⟨510, 10, 510, 19⟩ (.cons (.loc "octets" 2 ⟨510, 20, 510, 26⟩) <| .cons (.con (.int 2) 0 ⟨510, 28, 510, 29⟩) <| .nil) ⟨510, 10, 510, 30⟩) ⟨510, 4, 510, 30⟩) <|
  .cons (.asg "kind" 5 ⟨511, 4, 511, 8⟩ (.call "read_kind" 437 ⟨511, 11, 511, 20⟩ (.cons (.loc "octets" 2 ⟨511, 21, 511, 27⟩) <| .nil) ⟨511, 11, 511, 28⟩) ⟨511, 4, 511, 28⟩) <|
  .cons (.tr (.cons (.exp (.call "strict_kind" 430 ⟨513, 8, 513, 19⟩ (.cons (.loc "octets" 2 ⟨513, 20, 513, 26⟩) <| .nil) ⟨513, 8, 513, 27⟩) ⟨513, 8, 513, 27⟩) <|
  .nil) "WordFault" 59 ⟨514, 11, 514, 20⟩ (.cons (.ret (.and (.cmp (.loc "due" 3 ⟨515, 15, 515, 18⟩) .Is (.con .none 0 ⟨515, 22, 515, 26⟩) ⟨515, 15, 515, 26⟩) (.cmp2 (.met (.loc "kind" 5 ⟨515, 31, 515, 35⟩) 15 (.nil) ⟨515, 31, 515, 40⟩ ⟨515, 31, 515, 42⟩) .Eq (.met (.call "read_kind" 437 ⟨515, 46, 515, 55⟩ (.cons (.con .none 0 ⟨515, 56, 515, 60⟩) <| .nil) ⟨515, 46, 515, 61⟩) 15 (.nil) ⟨515, 46, 515, 66⟩ ⟨515, 46, 515, 68⟩) .Eq (.tup (.cons (.con (.str "text") 0 ⟨515, 73, 515, 79⟩) <| .cons (.con (.str "plain") 0 ⟨515, 81, 515, 88⟩) <| .cons (.tup (.cons (.tup (.cons (.con (.str "charset") 0 ⟨515, 92, 515, 101⟩) <| .cons (.con (.str "us-ascii") 0 ⟨515, 103, 515, 113⟩) <| .nil) 0 ⟨515, 91, 515, 114⟩) <| .nil) 0 ⟨515, 90, 515, 116⟩) <| .nil) 0 ⟨515, 72, 515, 117⟩) ⟨515, 31, 515, 117⟩) ⟨515, 15, 515, 117⟩) ⟨515, 8, 515, 117⟩) <|
  .nil) ⟨514, 4, 515, 117⟩ ⟨512, 4, 515, 117⟩) <|
  .cons (.ite (.or3 (.cmp (.loc "due" 3 ⟨516, 7, 516, 10⟩) .Is (.con .none 0 ⟨516, 14, 516, 18⟩) ⟨516, 7, 516, 18⟩) (.cmp (.lst (.cons (.att (.loc "kind" 5 ⟨516, 23, 516, 27⟩) 3 ⟨516, 23, 516, 31⟩) <| .cons (.att (.loc "kind" 5 ⟨516, 33, 516, 37⟩) 4 ⟨516, 33, 516, 41⟩) <| .nil) ⟨516, 22, 516, 42⟩) .NotEq (.sub (.loc "due" 3 ⟨516, 46, 516, 49⟩) (.con (.int 0) 0 ⟨516, 50, 516, 51⟩) ⟨516, 46, 516, 52⟩) ⟨516, 22, 516, 52⟩) (.nt (.call "_law_alike" 534 ⟨516, 61, 516, 71⟩ (.cons (.att (.loc "kind" 5 ⟨516, 72, 516, 76⟩) 5 ⟨516, 72, 516, 83⟩) <| .cons (.sub (.loc "due" 3 ⟨516, 85, 516, 88⟩) (.con (.int 1) 0 ⟨516, 89, 516, 90⟩) ⟨516, 85, 516, 91⟩) <| .nil) ⟨516, 61, 516, 92⟩) ⟨516, 57, 516, 92⟩) ⟨516, 7, 516, 93⟩) (.cons (.ret (.con (.bool false) 0 ⟨517, 15, 517, 20⟩) ⟨517, 8, 517, 20⟩) <|
  .nil) (.nil) ⟨516, 4, 517, 20⟩) <|
  .cons (.asg "is_letter" 6 ⟨518, 4, 518, 13⟩ (.cmp (.sub (.loc "due" 3 ⟨518, 16, 518, 19⟩) (.con (.int 0) 0 ⟨518, 20, 518, 21⟩) ⟨518, 16, 518, 22⟩) .Eq (.lst (.cons (.con (.str "message") 0 ⟨518, 27, 518, 36⟩) <| .cons (.con (.str "rfc822") 0 ⟨518, 38, 518, 46⟩) <| .nil) ⟨518, 26, 518, 47⟩) ⟨518, 16, 518, 47⟩) ⟨518, 4, 518, 47⟩) <|
  .cons (.ret (.cmp (.tup (.cons (.met (.loc "kind" 5 ⟨519, 12, 519, 16⟩) 16 (.nil) ⟨519, 12, 519, 25⟩ ⟨519, 12, 519, 27⟩) <| .cons (.met (.loc "kind" 5 ⟨519, 29, 519, 33⟩) 17 (.nil) ⟨519, 29, 519, 43⟩ ⟨519, 29, 519, 45⟩) <| .cons (.met (.loc "kind" 5 ⟨519, 47, 519, 51⟩) 18 (.nil) ⟨519, 47, 519, 59⟩ ⟨519, 47, 519, 61⟩) <| .nil) 0 ⟨519, 11, 519, 62⟩) .Eq (.tup (.cons (.cmp (.sub (.sub (.loc "due" 3 ⟨519, 67, 519, 70⟩) (.con (.int 0) 0 ⟨519, 71, 519, 72⟩) ⟨519, 67, 519, 73⟩) (.con (.int 0) 0 ⟨519, 74, 519, 75⟩) ⟨519, 67, 519, 76⟩) .Eq (.con (.str "multipart") 0 ⟨519, 80, 519, 91⟩) ⟨519, 67, 519, 91⟩) <| .cons (.loc "is_letter" 6 ⟨519, 93, 519, 102⟩) <| .cons (.cmp (.sub (.sub (.loc "due" 3 ⟨519, 104, 519, 107⟩) (.con (.int 0) 0 ⟨519, 108, 519, 109⟩) ⟨519, 104, 519, 110⟩) (.con (.int 0) 0 ⟨519, 111, 519, 112⟩) ⟨519, 104, 519, 113⟩) .Eq (.con (.str "text") 0 ⟨519, 117, 519, 123⟩) ⟨519, 104, 519, 123⟩) <| .nil) 0 ⟨519, 66, 519, 124⟩) ⟨519, 11, 519, 124⟩) ⟨519, 4, 519, 124⟩) <|
  .nil
noncomputable def b_Cursor_init : Ss :=
  .cons (.ast (.loc "self" 0 ⟨23, 8, 23, 12⟩) 0 ⟨23, 8, 23, 17⟩ (.loc "data" 1 ⟨23, 20, 23, 24⟩) ⟨23, 8, 23, 24⟩) <|
  .cons (.ast (.loc "self" 0 ⟨24, 8, 24, 12⟩) 1 ⟨24, 8, 24, 15⟩ (.loc "at" 2 ⟨24, 18, 24, 20⟩) ⟨24, 8, 24, 20⟩) <|
  .cons (.ast (.loc "self" 0 ⟨25, 8, 25, 12⟩) 2 ⟨25, 8, 25, 16⟩ (.ife (.cmp (.loc "end" 3 ⟨25, 32, 25, 35⟩) .Lt (.con (.int 0) 0 ⟨25, 38, 25, 39⟩) ⟨25, 32, 25, 39⟩) (.blt .len ⟨25, 19, 25, 22⟩ (.cons (.loc "data" 1 ⟨25, 23, 25, 27⟩) <| .nil) ⟨25, 19, 25, 28⟩) (.raw (.Call (.Name "min" ⟨25, 45, 25, 48⟩) [.Name "end" ⟨25, 49, 25, 52⟩, .Call (.Name "len" ⟨25, 54, 25, 57⟩) [.Name "data" ⟨25, 58, 25, 62⟩] [] ⟨25, 54, 25, 63⟩] [] ⟨25, 45, 25, 64⟩)) ⟨25, 19, 25, 64⟩) ⟨25, 8, 25, 64⟩) <|
  .nil
noncomputable def b_Cursor_is_done : Ss :=
  .cons (.ret (.cmp (.att (.loc "self" 0 ⟨28, 15, 28, 19⟩) 1 ⟨28, 15, 28, 22⟩) .GtE (.att (.loc "self" 0 ⟨28, 26, 28, 30⟩) 2 ⟨28, 26, 28, 34⟩) ⟨28, 15, 28, 34⟩) ⟨28, 8, 28, 34⟩) <|
  .nil
noncomputable def b_Cursor_peek : Ss :=
  .cons (.asg "place" 2 ⟨31, 8, 31, 13⟩ (.bin (.att (.loc "self" 0 ⟨31, 16, 31, 20⟩) 1 ⟨31, 16, 31, 23⟩) .Add (.loc "ahead" 1 ⟨31, 26, 31, 31⟩) ⟨31, 16, 31, 31⟩) ⟨31, 8, 31, 31⟩) <|
  .cons (.ret (.ife (.cmp2 (.con (.int 0) 0 ⟨32, 35, 32, 36⟩) .LtE (.loc "place" 2 ⟨32, 40, 32, 45⟩) .Lt (.att (.loc "self" 0 ⟨32, 48, 32, 52⟩) 2 ⟨32, 48, 32, 56⟩) ⟨32, 35, 32, 56⟩) (.sub (.att (.loc "self" 0 ⟨32, 15, 32, 19⟩) 0 ⟨32, 15, 32, 24⟩) (.loc "place" 2 ⟨32, 25, 32, 30⟩) ⟨32, 15, 32, 31⟩) (.neg (.con (.int 1) 0 ⟨32, 63, 32, 64⟩) ⟨32, 62, 32, 64⟩) ⟨32, 15, 32, 64⟩) ⟨32, 8, 32, 64⟩) <|
  .nil
noncomputable def b_Cursor_take : Ss :=
  .cons (.asg "code" 1 ⟨35, 8, 35, 12⟩ (.met (.loc "self" 0 ⟨35, 15, 35, 19⟩) 11 (.nil) ⟨35, 15, 35, 24⟩ ⟨35, 15, 35, 26⟩) ⟨35, 8, 35, 26⟩) <|
  .cons (.ite (.cmp (.loc "code" 1 ⟨36, 11, 36, 15⟩) .GtE (.con (.int 0) 0 ⟨36, 19, 36, 20⟩) ⟨36, 11, 36, 20⟩) (.cons (.ast (.loc "self" 0 ⟨37, 12, 37, 16⟩) 1 ⟨37, 12, 37, 19⟩ (.bin (.att (.loc "self" 0 ⟨37, 22, 37, 26⟩) 1 ⟨37, 22, 37, 29⟩) .Add (.con (.int 1) 0 ⟨37, 32, 37, 33⟩) ⟨37, 22, 37, 33⟩) ⟨37, 12, 37, 33⟩) <|
  .nil) (.nil) ⟨36, 8, 37, 33⟩) <|
  .cons (.ret (.loc "code" 1 ⟨38, 15, 38, 19⟩) ⟨38, 8, 38, 19⟩) <|
  .nil
noncomputable def b_Cursor_starts : Ss :=
  .cons (.ret (.and (.cmp (.bin (.att (.loc "self" 0 ⟨41, 15, 41, 19⟩) 1 ⟨41, 15, 41, 22⟩) .Add (.blt .len ⟨41, 25, 41, 28⟩ (.cons (.loc "word" 1 ⟨41, 29, 41, 33⟩) <| .nil) ⟨41, 25, 41, 34⟩) ⟨41, 15, 41, 34⟩) .LtE (.att (.loc "self" 0 ⟨41, 38, 41, 42⟩) 2 ⟨41, 38, 41, 46⟩) ⟨41, 15, 41, 46⟩) (.cmp (.slLU (.att (.loc "self" 0 ⟨41, 51, 41, 55⟩) 0 ⟨41, 51, 41, 60⟩) (.att (.loc "self" 0 ⟨41, 61, 41, 65⟩) 1 ⟨41, 61, 41, 68⟩) (.bin (.att (.loc "self" 0 ⟨41, 69, 41, 73⟩) 1 ⟨41, 69, 41, 76⟩) .Add (.blt .len ⟨41, 79, 41, 82⟩ (.cons (.loc "word" 1 ⟨41, 83, 41, 87⟩) <| .nil) ⟨41, 79, 41, 88⟩) ⟨41, 69, 41, 88⟩) ⟨41, 61, 41, 88⟩ ⟨41, 51, 41, 89⟩) .Eq (.loc "word" 1 ⟨41, 93, 41, 97⟩) ⟨41, 51, 41, 97⟩) ⟨41, 15, 41, 97⟩) ⟨41, 8, 41, 97⟩) <|
  .nil
noncomputable def b_Cursor_skip : Ss :=
  .cons (.ite (.nt (.met (.loc "self" 0 ⟨44, 15, 44, 19⟩) 13 (.cons (.loc "word" 1 ⟨44, 27, 44, 31⟩) <| .nil) ⟨44, 15, 44, 26⟩ ⟨44, 15, 44, 32⟩) ⟨44, 11, 44, 32⟩) (.cons (.ret (.con (.bool false) 0 ⟨45, 19, 45, 24⟩) ⟨45, 12, 45, 24⟩) <|
  .nil) (.nil) ⟨44, 8, 45, 24⟩) <|
  .cons (.ast (.loc "self" 0 ⟨46, 8, 46, 12⟩) 1 ⟨46, 8, 46, 15⟩ (.bin (.att (.loc "self" 0 ⟨46, 18, 46, 22⟩) 1 ⟨46, 18, 46, 25⟩) .Add (.blt .len ⟨46, 28, 46, 31⟩ (.cons (.loc "word" 1 ⟨46, 32, 46, 36⟩) <| .nil) ⟨46, 28, 46, 37⟩) ⟨46, 18, 46, 37⟩) ⟨46, 8, 46, 37⟩) <|
  .cons (.ret (.con (.bool true) 0 ⟨47, 15, 47, 19⟩) ⟨47, 8, 47, 19⟩) <|
  .nil
noncomputable def b_Kind_init : Ss :=
  .cons (.ast (.loc "self" 0 ⟨202, 8, 202, 12⟩) 3 ⟨202, 8, 202, 16⟩ (.loc "top" 1 ⟨202, 19, 202, 22⟩) ⟨202, 8, 202, 22⟩) <|
  .cons (.ast (.loc "self" 0 ⟨203, 8, 203, 12⟩) 4 ⟨203, 8, 203, 16⟩ (.loc "sub" 2 ⟨203, 19, 203, 22⟩) ⟨203, 8, 203, 22⟩) <|
  .cons (.ast (.loc "self" 0 ⟨204, 8, 204, 12⟩) 5 ⟨204, 8, 204, 19⟩ (.loc "params" 3 ⟨204, 22, 204, 28⟩) ⟨204, 8, 204, 28⟩) <|
  .nil
noncomputable def b_Kind_told : Ss :=
  .cons (.ret (.tup (.cons (.att (.loc "self" 0 ⟨207, 16, 207, 20⟩) 3 ⟨207, 16, 207, 24⟩) <| .cons (.att (.loc "self" 0 ⟨207, 26, 207, 30⟩) 4 ⟨207, 26, 207, 34⟩) <| .cons (.blt .tuple ⟨207, 36, 207, 41⟩ (.cons (.com (.tup (.cons (.loc "name" 0 ⟨207, 44, 207, 48⟩) <| .cons (.sub (.att (.loc "self" 1 ⟨207, 50, 207, 54⟩) 5 ⟨207, 50, 207, 61⟩) (.loc "name" 0 ⟨207, 62, 207, 66⟩) ⟨207, 50, 207, 67⟩) <| .nil) 0 ⟨207, 43, 207, 68⟩) "name" ⟨207, 73, 207, 77⟩ (.blt .sorted ⟨207, 81, 207, 87⟩ (.cons (.att (.loc "self" 0 ⟨207, 88, 207, 92⟩) 5 ⟨207, 88, 207, 99⟩) <| .nil) ⟨207, 81, 207, 100⟩) { kind := .function, names := [(".0", .local), ("name", .local), ("self", .free)], isGenerator := false, isCoroutine := false } ⟨207, 42, 207, 101⟩) <| .nil) ⟨207, 36, 207, 102⟩) <| .nil) 0 ⟨207, 15, 207, 103⟩) ⟨207, 8, 207, 103⟩) <|
  .nil
noncomputable def b_Kind_is_multi : Ss :=
  .cons (.ret (.cmp (.att (.loc "self" 0 ⟨210, 15, 210, 19⟩) 3 ⟨210, 15, 210, 23⟩) .Eq (.con (.str "multipart") 0 ⟨210, 27, 210, 38⟩) ⟨210, 15, 210, 38⟩) ⟨210, 8, 210, 38⟩) <|
  .nil
noncomputable def b_Kind_is_letter : Ss :=
  .cons (.ret (.and (.cmp (.att (.loc "self" 0 ⟨213, 15, 213, 19⟩) 3 ⟨213, 15, 213, 23⟩) .Eq (.con (.str "message") 0 ⟨213, 27, 213, 36⟩) ⟨213, 15, 213, 36⟩) (.cmp (.att (.loc "self" 0 ⟨213, 41, 213, 45⟩) 4 ⟨213, 41, 213, 49⟩) .Eq (.con (.str "rfc822") 0 ⟨213, 53, 213, 61⟩) ⟨213, 41, 213, 61⟩) ⟨213, 15, 213, 61⟩) ⟨213, 8, 213, 61⟩) <|
  .nil
noncomputable def b_Kind_is_text : Ss :=
  .cons (.ret (.cmp (.att (.loc "self" 0 ⟨216, 15, 216, 19⟩) 3 ⟨216, 15, 216, 23⟩) .Eq (.con (.str "text") 0 ⟨216, 27, 216, 33⟩) ⟨216, 15, 216, 33⟩) ⟨216, 8, 216, 33⟩) <|
  .nil
noncomputable def tabL : List (Nat × FK) := [
  (166, .fn 1 [] 1 b_lower_code),
  (171, .fn 1 [] 1 b_lower),
  (198, .fn 1 [] 1 b_need_charset),
  (205, .fn 1 [] 1 b_follower_span),
  (212, .fn 2 [] 8 b_utf8_sign),
  (219, .fn 3 [] 3 b_sign_at),
  (226, .fn 2 [] 6 b_text_in),
  (233, .fn 2 [] 6 b_strict_text),
  (240, .fn 1 [] 1 b_guessed_text),
  (248, .fn 2 [] 2 b_line_end),
  (255, .fn 3 [] 4 b_inside_at),
  (262, .fn 4 [] 7 b_closed_at),
  (269, .fn 2 [] 7 b_comment_at),
  (324, .fn 0 [] 0 b_plain_kind),
  (331, .fn 1 [] 1 b_is_token_code),
  (338, .fn 1 [] 1 b_skip_between),
  (345, .fn 1 [] 2 b_take_token),
  (352, .fn 1 [] 1 b_is_worth_code),
  (359, .fn 1 [] 3 b_take_worth),
  (364, .fn 1 [] 1 b_small_word),
  (371, .fn 1 [] 3 b_take_pairs),
  (385, .fn 1 [] 4 b_part_of),
  (416, .fn 1 [] 9 b_params_of),
  (423, .fn 1 [] 3 b_read_value),
  (430, .fn 1 [] 4 b_strict_kind),
  (437, .fn 1 [] 1 b_read_kind),
  (442, .fn 1 [] 4 b_l_pot),
  (449, .fn 2 [] 5 b_l_draw),
  (456, .fn 0 [] 0 b_l_gaps),
  (463, .fn 0 [] 0 b_l_heads),
  (470, .fn 0 [] 0 b_l_names),
  (477, .fn 0 [] 0 b_l_worths),
  (484, .fn 1 [] 1 b_l_gap),
  (491, .fn 1 [] 5 b_l_octets),
  (498, .fn 2 [] 3 b_l_past),
  (505, .fn 3 [] 4 b_l_run),
  (512, .fn 2 [] 3 b_l_quoted),
  (517, .fn 1 [] 1 b_l_text),
  (522, .fn 1 [] 1 b_l_small),
  (529, .fn 2 [] 10 b_l_read),
  (534, .fn 2 [] 2 b_l_alike),
  (541, .fn 1 [] 7 b_law),
  (88, .fn 4 [.int 0, .int (-1)] 4 b_Cursor_init),
  (95, .fn 1 [] 1 b_Cursor_is_done),
  (103, .fn 2 [.int 0] 3 b_Cursor_peek),
  (110, .fn 1 [] 2 b_Cursor_take),
  (117, .fn 2 [] 2 b_Cursor_starts),
  (124, .fn 2 [] 2 b_Cursor_skip),
  (284, .fn 4 [] 4 b_Kind_init),
  (289, .fn 1 [] 1 b_Kind_told),
  (296, .fn 1 [] 1 b_Kind_is_multi),
  (303, .fn 1 [] 1 b_Kind_is_letter),
  (310, .fn 1 [] 1 b_Kind_is_text),
  (155, .cls 88),
  (313, .cls 284)]
noncomputable def tab (f : Nat) : Option FK := tabL.lookup f
theorem tab_166 : tab 166 = some (.fn 1 [] 1 b_lower_code) := rfl
theorem at_166 {k : Nat} {hd : Bool} {hp : Hp} {Q : AV → Hp → Prop} {X : Nat → Hp → Prop} {a0 : AV} : iterF tab (k + 1) hd 166 [a0] hp Q X = wpSs (iterF tab k) hd b_lower_code ⟨[some a0], hp⟩ (fun st => Q .none st.hp) (fun v st => Q v st.hp) (fun _ => False) (fun c st => X c st.hp) := propext ⟨fun h => h.2.2, fun h => ⟨by simp, by simp, h⟩⟩
theorem tab_171 : tab 171 = some (.fn 1 [] 1 b_lower) := rfl
theorem at_171 {k : Nat} {hd : Bool} {hp : Hp} {Q : AV → Hp → Prop} {X : Nat → Hp → Prop} {a0 : AV} : iterF tab (k + 1) hd 171 [a0] hp Q X = wpSs (iterF tab k) hd b_lower ⟨[some a0], hp⟩ (fun st => Q .none st.hp) (fun v st => Q v st.hp) (fun _ => False) (fun c st => X c st.hp) := propext ⟨fun h => h.2.2, fun h => ⟨by simp, by simp, h⟩⟩
theorem tab_198 : tab 198 = some (.fn 1 [] 1 b_need_charset) := rfl
theorem at_198 {k : Nat} {hd : Bool} {hp : Hp} {Q : AV → Hp → Prop} {X : Nat → Hp → Prop} {a0 : AV} : iterF tab (k + 1) hd 198 [a0] hp Q X = wpSs (iterF tab k) hd b_need_charset ⟨[some a0], hp⟩ (fun st => Q .none st.hp) (fun v st => Q v st.hp) (fun _ => False) (fun c st => X c st.hp) := propext ⟨fun h => h.2.2, fun h => ⟨by simp, by simp, h⟩⟩
theorem tab_205 : tab 205 = some (.fn 1 [] 1 b_follower_span) := rfl
theorem at_205 {k : Nat} {hd : Bool} {hp : Hp} {Q : AV → Hp → Prop} {X : Nat → Hp → Prop} {a0 : AV} : iterF tab (k + 1) hd 205 [a0] hp Q X = wpSs (iterF tab k) hd b_follower_span ⟨[some a0], hp⟩ (fun st => Q .none st.hp) (fun v st => Q v st.hp) (fun _ => False) (fun c st => X c st.hp) := propext ⟨fun h => h.2.2, fun h => ⟨by simp, by simp, h⟩⟩
theorem tab_212 : tab 212 = some (.fn 2 [] 8 b_utf8_sign) := rfl
theorem at_212 {k : Nat} {hd : Bool} {hp : Hp} {Q : AV → Hp → Prop} {X : Nat → Hp → Prop} {a0 a1 : AV} : iterF tab (k + 1) hd 212 [a0, a1] hp Q X = wpSs (iterF tab k) hd b_utf8_sign ⟨[some a0, some a1, none, none, none, none, none, none], hp⟩ (fun st => Q .none st.hp) (fun v st => Q v st.hp) (fun _ => False) (fun c st => X c st.hp) := propext ⟨fun h => h.2.2, fun h => ⟨by simp, by simp, h⟩⟩
theorem tab_219 : tab 219 = some (.fn 3 [] 3 b_sign_at) := rfl
theorem at_219 {k : Nat} {hd : Bool} {hp : Hp} {Q : AV → Hp → Prop} {X : Nat → Hp → Prop} {a0 a1 a2 : AV} : iterF tab (k + 1) hd 219 [a0, a1, a2] hp Q X = wpSs (iterF tab k) hd b_sign_at ⟨[some a0, some a1, some a2], hp⟩ (fun st => Q .none st.hp) (fun v st => Q v st.hp) (fun _ => False) (fun c st => X c st.hp) := propext ⟨fun h => h.2.2, fun h => ⟨by simp, by simp, h⟩⟩
theorem tab_226 : tab 226 = some (.fn 2 [] 6 b_text_in) := rfl
theorem at_226 {k : Nat} {hd : Bool} {hp : Hp} {Q : AV → Hp → Prop} {X : Nat → Hp → Prop} {a0 a1 : AV} : iterF tab (k + 1) hd 226 [a0, a1] hp Q X = wpSs (iterF tab k) hd b_text_in ⟨[some a0, some a1, none, none, none, none], hp⟩ (fun st => Q .none st.hp) (fun v st => Q v st.hp) (fun _ => False) (fun c st => X c st.hp) := propext ⟨fun h => h.2.2, fun h => ⟨by simp, by simp, h⟩⟩
theorem tab_233 : tab 233 = some (.fn 2 [] 6 b_strict_text) := rfl
theorem at_233 {k : Nat} {hd : Bool} {hp : Hp} {Q : AV → Hp → Prop} {X : Nat → Hp → Prop} {a0 a1 : AV} : iterF tab (k + 1) hd 233 [a0, a1] hp Q X = wpSs (iterF tab k) hd b_strict_text ⟨[some a0, some a1, none, none, none, none], hp⟩ (fun st => Q .none st.hp) (fun v st => Q v st.hp) (fun _ => False) (fun c st => X c st.hp) := propext ⟨fun h => h.2.2, fun h => ⟨by simp, by simp, h⟩⟩
theorem tab_240 : tab 240 = some (.fn 1 [] 1 b_guessed_text) := rfl
theorem at_240 {k : Nat} {hd : Bool} {hp : Hp} {Q : AV → Hp → Prop} {X : Nat → Hp → Prop} {a0 : AV} : iterF tab (k + 1) hd 240 [a0] hp Q X = wpSs (iterF tab k) hd b_guessed_text ⟨[some a0], hp⟩ (fun st => Q .none st.hp) (fun v st => Q v st.hp) (fun _ => False) (fun c st => X c st.hp) := propext ⟨fun h => h.2.2, fun h => ⟨by simp, by simp, h⟩⟩
theorem tab_248 : tab 248 = some (.fn 2 [] 2 b_line_end) := rfl
theorem at_248 {k : Nat} {hd : Bool} {hp : Hp} {Q : AV → Hp → Prop} {X : Nat → Hp → Prop} {a0 a1 : AV} : iterF tab (k + 1) hd 248 [a0, a1] hp Q X = wpSs (iterF tab k) hd b_line_end ⟨[some a0, some a1], hp⟩ (fun st => Q .none st.hp) (fun v st => Q v st.hp) (fun _ => False) (fun c st => X c st.hp) := propext ⟨fun h => h.2.2, fun h => ⟨by simp, by simp, h⟩⟩
theorem tab_255 : tab 255 = some (.fn 3 [] 4 b_inside_at) := rfl
theorem at_255 {k : Nat} {hd : Bool} {hp : Hp} {Q : AV → Hp → Prop} {X : Nat → Hp → Prop} {a0 a1 a2 : AV} : iterF tab (k + 1) hd 255 [a0, a1, a2] hp Q X = wpSs (iterF tab k) hd b_inside_at ⟨[some a0, some a1, some a2, none], hp⟩ (fun st => Q .none st.hp) (fun v st => Q v st.hp) (fun _ => False) (fun c st => X c st.hp) := propext ⟨fun h => h.2.2, fun h => ⟨by simp, by simp, h⟩⟩
theorem tab_262 : tab 262 = some (.fn 4 [] 7 b_closed_at) := rfl
theorem at_262 {k : Nat} {hd : Bool} {hp : Hp} {Q : AV → Hp → Prop} {X : Nat → Hp → Prop} {a0 a1 a2 a3 : AV} : iterF tab (k + 1) hd 262 [a0, a1, a2, a3] hp Q X = wpSs (iterF tab k) hd b_closed_at ⟨[some a0, some a1, some a2, some a3, none, none, none], hp⟩ (fun st => Q .none st.hp) (fun v st => Q v st.hp) (fun _ => False) (fun c st => X c st.hp) := propext ⟨fun h => h.2.2, fun h => ⟨by simp, by simp, h⟩⟩
theorem tab_269 : tab 269 = some (.fn 2 [] 7 b_comment_at) := rfl
theorem at_269 {k : Nat} {hd : Bool} {hp : Hp} {Q : AV → Hp → Prop} {X : Nat → Hp → Prop} {a0 a1 : AV} : iterF tab (k + 1) hd 269 [a0, a1] hp Q X = wpSs (iterF tab k) hd b_comment_at ⟨[some a0, some a1, none, none, none, none, none], hp⟩ (fun st => Q .none st.hp) (fun v st => Q v st.hp) (fun _ => False) (fun c st => X c st.hp) := propext ⟨fun h => h.2.2, fun h => ⟨by simp, by simp, h⟩⟩
theorem tab_324 : tab 324 = some (.fn 0 [] 0 b_plain_kind) := rfl
theorem at_324 {k : Nat} {hd : Bool} {hp : Hp} {Q : AV → Hp → Prop} {X : Nat → Hp → Prop} : iterF tab (k + 1) hd 324 [] hp Q X = wpSs (iterF tab k) hd b_plain_kind ⟨[], hp⟩ (fun st => Q .none st.hp) (fun v st => Q v st.hp) (fun _ => False) (fun c st => X c st.hp) := propext ⟨fun h => h.2.2, fun h => ⟨by simp, by simp, h⟩⟩
theorem tab_331 : tab 331 = some (.fn 1 [] 1 b_is_token_code) := rfl
theorem at_331 {k : Nat} {hd : Bool} {hp : Hp} {Q : AV → Hp → Prop} {X : Nat → Hp → Prop} {a0 : AV} : iterF tab (k + 1) hd 331 [a0] hp Q X = wpSs (iterF tab k) hd b_is_token_code ⟨[some a0], hp⟩ (fun st => Q .none st.hp) (fun v st => Q v st.hp) (fun _ => False) (fun c st => X c st.hp) := propext ⟨fun h => h.2.2, fun h => ⟨by simp, by simp, h⟩⟩
theorem tab_338 : tab 338 = some (.fn 1 [] 1 b_skip_between) := rfl
theorem at_338 {k : Nat} {hd : Bool} {hp : Hp} {Q : AV → Hp → Prop} {X : Nat → Hp → Prop} {a0 : AV} : iterF tab (k + 1) hd 338 [a0] hp Q X = wpSs (iterF tab k) hd b_skip_between ⟨[some a0], hp⟩ (fun st => Q .none st.hp) (fun v st => Q v st.hp) (fun _ => False) (fun c st => X c st.hp) := propext ⟨fun h => h.2.2, fun h => ⟨by simp, by simp, h⟩⟩
theorem tab_345 : tab 345 = some (.fn 1 [] 2 b_take_token) := rfl
theorem at_345 {k : Nat} {hd : Bool} {hp : Hp} {Q : AV → Hp → Prop} {X : Nat → Hp → Prop} {a0 : AV} : iterF tab (k + 1) hd 345 [a0] hp Q X = wpSs (iterF tab k) hd b_take_token ⟨[some a0, none], hp⟩ (fun st => Q .none st.hp) (fun v st => Q v st.hp) (fun _ => False) (fun c st => X c st.hp) := propext ⟨fun h => h.2.2, fun h => ⟨by simp, by simp, h⟩⟩
theorem tab_352 : tab 352 = some (.fn 1 [] 1 b_is_worth_code) := rfl
theorem at_352 {k : Nat} {hd : Bool} {hp : Hp} {Q : AV → Hp → Prop} {X : Nat → Hp → Prop} {a0 : AV} : iterF tab (k + 1) hd 352 [a0] hp Q X = wpSs (iterF tab k) hd b_is_worth_code ⟨[some a0], hp⟩ (fun st => Q .none st.hp) (fun v st => Q v st.hp) (fun _ => False) (fun c st => X c st.hp) := propext ⟨fun h => h.2.2, fun h => ⟨by simp, by simp, h⟩⟩
theorem tab_359 : tab 359 = some (.fn 1 [] 3 b_take_worth) := rfl
theorem at_359 {k : Nat} {hd : Bool} {hp : Hp} {Q : AV → Hp → Prop} {X : Nat → Hp → Prop} {a0 : AV} : iterF tab (k + 1) hd 359 [a0] hp Q X = wpSs (iterF tab k) hd b_take_worth ⟨[some a0, none, none], hp⟩ (fun st => Q .none st.hp) (fun v st => Q v st.hp) (fun _ => False) (fun c st => X c st.hp) := propext ⟨fun h => h.2.2, fun h => ⟨by simp, by simp, h⟩⟩
theorem tab_364 : tab 364 = some (.fn 1 [] 1 b_small_word) := rfl
theorem at_364 {k : Nat} {hd : Bool} {hp : Hp} {Q : AV → Hp → Prop} {X : Nat → Hp → Prop} {a0 : AV} : iterF tab (k + 1) hd 364 [a0] hp Q X = wpSs (iterF tab k) hd b_small_word ⟨[some a0], hp⟩ (fun st => Q .none st.hp) (fun v st => Q v st.hp) (fun _ => False) (fun c st => X c st.hp) := propext ⟨fun h => h.2.2, fun h => ⟨by simp, by simp, h⟩⟩
theorem tab_371 : tab 371 = some (.fn 1 [] 3 b_take_pairs) := rfl
theorem at_371 {k : Nat} {hd : Bool} {hp : Hp} {Q : AV → Hp → Prop} {X : Nat → Hp → Prop} {a0 : AV} : iterF tab (k + 1) hd 371 [a0] hp Q X = wpSs (iterF tab k) hd b_take_pairs ⟨[some a0, none, none], hp⟩ (fun st => Q .none st.hp) (fun v st => Q v st.hp) (fun _ => False) (fun c st => X c st.hp) := propext ⟨fun h => h.2.2, fun h => ⟨by simp, by simp, h⟩⟩
theorem tab_385 : tab 385 = some (.fn 1 [] 4 b_part_of) := rfl
theorem at_385 {k : Nat} {hd : Bool} {hp : Hp} {Q : AV → Hp → Prop} {X : Nat → Hp → Prop} {a0 : AV} : iterF tab (k + 1) hd 385 [a0] hp Q X = wpSs (iterF tab k) hd b_part_of ⟨[some a0, none, none, none], hp⟩ (fun st => Q .none st.hp) (fun v st => Q v st.hp) (fun _ => False) (fun c st => X c st.hp) := propext ⟨fun h => h.2.2, fun h => ⟨by simp, by simp, h⟩⟩
theorem tab_416 : tab 416 = some (.fn 1 [] 9 b_params_of) := rfl
theorem at_416 {k : Nat} {hd : Bool} {hp : Hp} {Q : AV → Hp → Prop} {X : Nat → Hp → Prop} {a0 : AV} : iterF tab (k + 1) hd 416 [a0] hp Q X = wpSs (iterF tab k) hd b_params_of ⟨[some a0, none, none, none, none, none, none, none, none], hp⟩ (fun st => Q .none st.hp) (fun v st => Q v st.hp) (fun _ => False) (fun c st => X c st.hp) := propext ⟨fun h => h.2.2, fun h => ⟨by simp, by simp, h⟩⟩
theorem tab_423 : tab 423 = some (.fn 1 [] 3 b_read_value) := rfl
theorem at_423 {k : Nat} {hd : Bool} {hp : Hp} {Q : AV → Hp → Prop} {X : Nat → Hp → Prop} {a0 : AV} : iterF tab (k + 1) hd 423 [a0] hp Q X = wpSs (iterF tab k) hd b_read_value ⟨[some a0, none, none], hp⟩ (fun st => Q .none st.hp) (fun v st => Q v st.hp) (fun _ => False) (fun c st => X c st.hp) := propext ⟨fun h => h.2.2, fun h => ⟨by simp, by simp, h⟩⟩
theorem tab_430 : tab 430 = some (.fn 1 [] 4 b_strict_kind) := rfl
theorem at_430 {k : Nat} {hd : Bool} {hp : Hp} {Q : AV → Hp → Prop} {X : Nat → Hp → Prop} {a0 : AV} : iterF tab (k + 1) hd 430 [a0] hp Q X = wpSs (iterF tab k) hd b_strict_kind ⟨[some a0, none, none, none], hp⟩ (fun st => Q .none st.hp) (fun v st => Q v st.hp) (fun _ => False) (fun c st => X c st.hp) := propext ⟨fun h => h.2.2, fun h => ⟨by simp, by simp, h⟩⟩
theorem tab_437 : tab 437 = some (.fn 1 [] 1 b_read_kind) := rfl
theorem at_437 {k : Nat} {hd : Bool} {hp : Hp} {Q : AV → Hp → Prop} {X : Nat → Hp → Prop} {a0 : AV} : iterF tab (k + 1) hd 437 [a0] hp Q X = wpSs (iterF tab k) hd b_read_kind ⟨[some a0], hp⟩ (fun st => Q .none st.hp) (fun v st => Q v st.hp) (fun _ => False) (fun c st => X c st.hp) := propext ⟨fun h => h.2.2, fun h => ⟨by simp, by simp, h⟩⟩
theorem tab_442 : tab 442 = some (.fn 1 [] 4 b_l_pot) := rfl
theorem tab_449 : tab 449 = some (.fn 2 [] 5 b_l_draw) := rfl
theorem at_449 {k : Nat} {hd : Bool} {hp : Hp} {Q : AV → Hp → Prop} {X : Nat → Hp → Prop} {a0 a1 : AV} : iterF tab (k + 1) hd 449 [a0, a1] hp Q X = wpSs (iterF tab k) hd b_l_draw ⟨[some a0, some a1, none, none, none], hp⟩ (fun st => Q .none st.hp) (fun v st => Q v st.hp) (fun _ => False) (fun c st => X c st.hp) := propext ⟨fun h => h.2.2, fun h => ⟨by simp, by simp, h⟩⟩
theorem tab_456 : tab 456 = some (.fn 0 [] 0 b_l_gaps) := rfl
theorem at_456 {k : Nat} {hd : Bool} {hp : Hp} {Q : AV → Hp → Prop} {X : Nat → Hp → Prop} : iterF tab (k + 1) hd 456 [] hp Q X = wpSs (iterF tab k) hd b_l_gaps ⟨[], hp⟩ (fun st => Q .none st.hp) (fun v st => Q v st.hp) (fun _ => False) (fun c st => X c st.hp) := propext ⟨fun h => h.2.2, fun h => ⟨by simp, by simp, h⟩⟩
theorem tab_463 : tab 463 = some (.fn 0 [] 0 b_l_heads) := rfl
theorem at_463 {k : Nat} {hd : Bool} {hp : Hp} {Q : AV → Hp → Prop} {X : Nat → Hp → Prop} : iterF tab (k + 1) hd 463 [] hp Q X = wpSs (iterF tab k) hd b_l_heads ⟨[], hp⟩ (fun st => Q .none st.hp) (fun v st => Q v st.hp) (fun _ => False) (fun c st => X c st.hp) := propext ⟨fun h => h.2.2, fun h => ⟨by simp, by simp, h⟩⟩
theorem tab_470 : tab 470 = some (.fn 0 [] 0 b_l_names) := rfl
theorem at_470 {k : Nat} {hd : Bool} {hp : Hp} {Q : AV → Hp → Prop} {X : Nat → Hp → Prop} : iterF tab (k + 1) hd 470 [] hp Q X = wpSs (iterF tab k) hd b_l_names ⟨[], hp⟩ (fun st => Q .none st.hp) (fun v st => Q v st.hp) (fun _ => False) (fun c st => X c st.hp) := propext ⟨fun h => h.2.2, fun h => ⟨by simp, by simp, h⟩⟩
theorem tab_477 : tab 477 = some (.fn 0 [] 0 b_l_worths) := rfl
theorem at_477 {k : Nat} {hd : Bool} {hp : Hp} {Q : AV → Hp → Prop} {X : Nat → Hp → Prop} : iterF tab (k + 1) hd 477 [] hp Q X = wpSs (iterF tab k) hd b_l_worths ⟨[], hp⟩ (fun st => Q .none st.hp) (fun v st => Q v st.hp) (fun _ => False) (fun c st => X c st.hp) := propext ⟨fun h => h.2.2, fun h => ⟨by simp, by simp, h⟩⟩
theorem tab_484 : tab 484 = some (.fn 1 [] 1 b_l_gap) := rfl
theorem at_484 {k : Nat} {hd : Bool} {hp : Hp} {Q : AV → Hp → Prop} {X : Nat → Hp → Prop} {a0 : AV} : iterF tab (k + 1) hd 484 [a0] hp Q X = wpSs (iterF tab k) hd b_l_gap ⟨[some a0], hp⟩ (fun st => Q .none st.hp) (fun v st => Q v st.hp) (fun _ => False) (fun c st => X c st.hp) := propext ⟨fun h => h.2.2, fun h => ⟨by simp, by simp, h⟩⟩
theorem tab_491 : tab 491 = some (.fn 1 [] 5 b_l_octets) := rfl
theorem at_491 {k : Nat} {hd : Bool} {hp : Hp} {Q : AV → Hp → Prop} {X : Nat → Hp → Prop} {a0 : AV} : iterF tab (k + 1) hd 491 [a0] hp Q X = wpSs (iterF tab k) hd b_l_octets ⟨[some a0, none, none, none, none], hp⟩ (fun st => Q .none st.hp) (fun v st => Q v st.hp) (fun _ => False) (fun c st => X c st.hp) := propext ⟨fun h => h.2.2, fun h => ⟨by simp, by simp, h⟩⟩
theorem tab_498 : tab 498 = some (.fn 2 [] 3 b_l_past) := rfl
theorem at_498 {k : Nat} {hd : Bool} {hp : Hp} {Q : AV → Hp → Prop} {X : Nat → Hp → Prop} {a0 a1 : AV} : iterF tab (k + 1) hd 498 [a0, a1] hp Q X = wpSs (iterF tab k) hd b_l_past ⟨[some a0, some a1, none], hp⟩ (fun st => Q .none st.hp) (fun v st => Q v st.hp) (fun _ => False) (fun c st => X c st.hp) := propext ⟨fun h => h.2.2, fun h => ⟨by simp, by simp, h⟩⟩
theorem tab_505 : tab 505 = some (.fn 3 [] 4 b_l_run) := rfl
theorem at_505 {k : Nat} {hd : Bool} {hp : Hp} {Q : AV → Hp → Prop} {X : Nat → Hp → Prop} {a0 a1 a2 : AV} : iterF tab (k + 1) hd 505 [a0, a1, a2] hp Q X = wpSs (iterF tab k) hd b_l_run ⟨[some a0, some a1, some a2, none], hp⟩ (fun st => Q .none st.hp) (fun v st => Q v st.hp) (fun _ => False) (fun c st => X c st.hp) := propext ⟨fun h => h.2.2, fun h => ⟨by simp, by simp, h⟩⟩
theorem tab_512 : tab 512 = some (.fn 2 [] 3 b_l_quoted) := rfl
theorem at_512 {k : Nat} {hd : Bool} {hp : Hp} {Q : AV → Hp → Prop} {X : Nat → Hp → Prop} {a0 a1 : AV} : iterF tab (k + 1) hd 512 [a0, a1] hp Q X = wpSs (iterF tab k) hd b_l_quoted ⟨[some a0, some a1, none], hp⟩ (fun st => Q .none st.hp) (fun v st => Q v st.hp) (fun _ => False) (fun c st => X c st.hp) := propext ⟨fun h => h.2.2, fun h => ⟨by simp, by simp, h⟩⟩
theorem tab_517 : tab 517 = some (.fn 1 [] 1 b_l_text) := rfl
theorem at_517 {k : Nat} {hd : Bool} {hp : Hp} {Q : AV → Hp → Prop} {X : Nat → Hp → Prop} {a0 : AV} : iterF tab (k + 1) hd 517 [a0] hp Q X = wpSs (iterF tab k) hd b_l_text ⟨[some a0], hp⟩ (fun st => Q .none st.hp) (fun v st => Q v st.hp) (fun _ => False) (fun c st => X c st.hp) := propext ⟨fun h => h.2.2, fun h => ⟨by simp, by simp, h⟩⟩
theorem tab_522 : tab 522 = some (.fn 1 [] 1 b_l_small) := rfl
theorem at_522 {k : Nat} {hd : Bool} {hp : Hp} {Q : AV → Hp → Prop} {X : Nat → Hp → Prop} {a0 : AV} : iterF tab (k + 1) hd 522 [a0] hp Q X = wpSs (iterF tab k) hd b_l_small ⟨[some a0], hp⟩ (fun st => Q .none st.hp) (fun v st => Q v st.hp) (fun _ => False) (fun c st => X c st.hp) := propext ⟨fun h => h.2.2, fun h => ⟨by simp, by simp, h⟩⟩
theorem tab_529 : tab 529 = some (.fn 2 [] 10 b_l_read) := rfl
theorem at_529 {k : Nat} {hd : Bool} {hp : Hp} {Q : AV → Hp → Prop} {X : Nat → Hp → Prop} {a0 a1 : AV} : iterF tab (k + 1) hd 529 [a0, a1] hp Q X = wpSs (iterF tab k) hd b_l_read ⟨[some a0, some a1, none, none, none, none, none, none, none, none], hp⟩ (fun st => Q .none st.hp) (fun v st => Q v st.hp) (fun _ => False) (fun c st => X c st.hp) := propext ⟨fun h => h.2.2, fun h => ⟨by simp, by simp, h⟩⟩
theorem tab_534 : tab 534 = some (.fn 2 [] 2 b_l_alike) := rfl
theorem at_534 {k : Nat} {hd : Bool} {hp : Hp} {Q : AV → Hp → Prop} {X : Nat → Hp → Prop} {a0 a1 : AV} : iterF tab (k + 1) hd 534 [a0, a1] hp Q X = wpSs (iterF tab k) hd b_l_alike ⟨[some a0, some a1], hp⟩ (fun st => Q .none st.hp) (fun v st => Q v st.hp) (fun _ => False) (fun c st => X c st.hp) := propext ⟨fun h => h.2.2, fun h => ⟨by simp, by simp, h⟩⟩
theorem tab_541 : tab 541 = some (.fn 1 [] 7 b_law) := rfl
theorem tab_88 : tab 88 = some (.fn 4 [.int 0, .int (-1)] 4 b_Cursor_init) := rfl
theorem at_88_2 {k : Nat} {hd : Bool} {hp : Hp} {Q : AV → Hp → Prop} {X : Nat → Hp → Prop} {a0 a1 : AV} : iterF tab (k + 1) hd 88 [a0, a1] hp Q X = wpSs (iterF tab k) hd b_Cursor_init ⟨[some a0, some a1, some (.int 0), some (.int (-1))], hp⟩ (fun st => Q .none st.hp) (fun v st => Q v st.hp) (fun _ => False) (fun c st => X c st.hp) := propext ⟨fun h => h.2.2, fun h => ⟨by simp, by simp, h⟩⟩
theorem tab_95 : tab 95 = some (.fn 1 [] 1 b_Cursor_is_done) := rfl
theorem at_95 {k : Nat} {hd : Bool} {hp : Hp} {Q : AV → Hp → Prop} {X : Nat → Hp → Prop} {a0 : AV} : iterF tab (k + 1) hd 95 [a0] hp Q X = wpSs (iterF tab k) hd b_Cursor_is_done ⟨[some a0], hp⟩ (fun st => Q .none st.hp) (fun v st => Q v st.hp) (fun _ => False) (fun c st => X c st.hp) := propext ⟨fun h => h.2.2, fun h => ⟨by simp, by simp, h⟩⟩
theorem tab_103 : tab 103 = some (.fn 2 [.int 0] 3 b_Cursor_peek) := rfl
theorem at_103_1 {k : Nat} {hd : Bool} {hp : Hp} {Q : AV → Hp → Prop} {X : Nat → Hp → Prop} {a0 : AV} : iterF tab (k + 1) hd 103 [a0] hp Q X = wpSs (iterF tab k) hd b_Cursor_peek ⟨[some a0, some (.int 0), none], hp⟩ (fun st => Q .none st.hp) (fun v st => Q v st.hp) (fun _ => False) (fun c st => X c st.hp) := propext ⟨fun h => h.2.2, fun h => ⟨by simp, by simp, h⟩⟩
theorem tab_110 : tab 110 = some (.fn 1 [] 2 b_Cursor_take) := rfl
theorem at_110 {k : Nat} {hd : Bool} {hp : Hp} {Q : AV → Hp → Prop} {X : Nat → Hp → Prop} {a0 : AV} : iterF tab (k + 1) hd 110 [a0] hp Q X = wpSs (iterF tab k) hd b_Cursor_take ⟨[some a0, none], hp⟩ (fun st => Q .none st.hp) (fun v st => Q v st.hp) (fun _ => False) (fun c st => X c st.hp) := propext ⟨fun h => h.2.2, fun h => ⟨by simp, by simp, h⟩⟩
theorem tab_117 : tab 117 = some (.fn 2 [] 2 b_Cursor_starts) := rfl
theorem at_117 {k : Nat} {hd : Bool} {hp : Hp} {Q : AV → Hp → Prop} {X : Nat → Hp → Prop} {a0 a1 : AV} : iterF tab (k + 1) hd 117 [a0, a1] hp Q X = wpSs (iterF tab k) hd b_Cursor_starts ⟨[some a0, some a1], hp⟩ (fun st => Q .none st.hp) (fun v st => Q v st.hp) (fun _ => False) (fun c st => X c st.hp) := propext ⟨fun h => h.2.2, fun h => ⟨by simp, by simp, h⟩⟩
theorem tab_124 : tab 124 = some (.fn 2 [] 2 b_Cursor_skip) := rfl
theorem at_124 {k : Nat} {hd : Bool} {hp : Hp} {Q : AV → Hp → Prop} {X : Nat → Hp → Prop} {a0 a1 : AV} : iterF tab (k + 1) hd 124 [a0, a1] hp Q X = wpSs (iterF tab k) hd b_Cursor_skip ⟨[some a0, some a1], hp⟩ (fun st => Q .none st.hp) (fun v st => Q v st.hp) (fun _ => False) (fun c st => X c st.hp) := propext ⟨fun h => h.2.2, fun h => ⟨by simp, by simp, h⟩⟩
theorem tab_284 : tab 284 = some (.fn 4 [] 4 b_Kind_init) := rfl
theorem at_284 {k : Nat} {hd : Bool} {hp : Hp} {Q : AV → Hp → Prop} {X : Nat → Hp → Prop} {a0 a1 a2 a3 : AV} : iterF tab (k + 1) hd 284 [a0, a1, a2, a3] hp Q X = wpSs (iterF tab k) hd b_Kind_init ⟨[some a0, some a1, some a2, some a3], hp⟩ (fun st => Q .none st.hp) (fun v st => Q v st.hp) (fun _ => False) (fun c st => X c st.hp) := propext ⟨fun h => h.2.2, fun h => ⟨by simp, by simp, h⟩⟩
theorem tab_289 : tab 289 = some (.fn 1 [] 1 b_Kind_told) := rfl
theorem at_289 {k : Nat} {hd : Bool} {hp : Hp} {Q : AV → Hp → Prop} {X : Nat → Hp → Prop} {a0 : AV} : iterF tab (k + 1) hd 289 [a0] hp Q X = wpSs (iterF tab k) hd b_Kind_told ⟨[some a0], hp⟩ (fun st => Q .none st.hp) (fun v st => Q v st.hp) (fun _ => False) (fun c st => X c st.hp) := propext ⟨fun h => h.2.2, fun h => ⟨by simp, by simp, h⟩⟩
theorem tab_296 : tab 296 = some (.fn 1 [] 1 b_Kind_is_multi) := rfl
theorem at_296 {k : Nat} {hd : Bool} {hp : Hp} {Q : AV → Hp → Prop} {X : Nat → Hp → Prop} {a0 : AV} : iterF tab (k + 1) hd 296 [a0] hp Q X = wpSs (iterF tab k) hd b_Kind_is_multi ⟨[some a0], hp⟩ (fun st => Q .none st.hp) (fun v st => Q v st.hp) (fun _ => False) (fun c st => X c st.hp) := propext ⟨fun h => h.2.2, fun h => ⟨by simp, by simp, h⟩⟩
theorem tab_303 : tab 303 = some (.fn 1 [] 1 b_Kind_is_letter) := rfl
theorem at_303 {k : Nat} {hd : Bool} {hp : Hp} {Q : AV → Hp → Prop} {X : Nat → Hp → Prop} {a0 : AV} : iterF tab (k + 1) hd 303 [a0] hp Q X = wpSs (iterF tab k) hd b_Kind_is_letter ⟨[some a0], hp⟩ (fun st => Q .none st.hp) (fun v st => Q v st.hp) (fun _ => False) (fun c st => X c st.hp) := propext ⟨fun h => h.2.2, fun h => ⟨by simp, by simp, h⟩⟩
theorem tab_310 : tab 310 = some (.fn 1 [] 1 b_Kind_is_text) := rfl
theorem at_310 {k : Nat} {hd : Bool} {hp : Hp} {Q : AV → Hp → Prop} {X : Nat → Hp → Prop} {a0 : AV} : iterF tab (k + 1) hd 310 [a0] hp Q X = wpSs (iterF tab k) hd b_Kind_is_text ⟨[some a0], hp⟩ (fun st => Q .none st.hp) (fun v st => Q v st.hp) (fun _ => False) (fun c st => X c st.hp) := propext ⟨fun h => h.2.2, fun h => ⟨by simp, by simp, h⟩⟩
theorem tab_155 : tab 155 = some (.cls 88) := rfl
theorem at_155 {k : Nat} {hd : Bool} {hp : Hp} {Q : AV → Hp → Prop} {X : Nat → Hp → Prop} {vs : List AV} : iterF tab (k + 1) hd 155 vs hp Q X = iterF tab k hd 88 (.obj hp.length :: vs) (hp ++ [.inst 155 []]) (fun v h => v = .none ∧ Q (.obj hp.length) h) X := rfl
theorem tab_313 : tab 313 = some (.cls 284) := rfl
theorem at_313 {k : Nat} {hd : Bool} {hp : Hp} {Q : AV → Hp → Prop} {X : Nat → Hp → Prop} {vs : List AV} : iterF tab (k + 1) hd 313 vs hp Q X = iterF tab k hd 284 (.obj hp.length :: vs) (hp ++ [.inst 313 []]) (fun v h => v = .none ∧ Q (.obj hp.length) h) X := rfl
end Mine
end

noncomputable section
open PySem PySem.W PyProof.Rows PySem.Calls PySem.Spec
set_option maxRecDepth 100000
namespace Mine
theorem kv0 : constV .none = some .none := rfl
theorem kv1 (b : Bool) : constV (.bool b) = some (.bool b) := rfl
theorem kv2 (i : Int) : constV (.int i) = some (.int i) := rfl
theorem kv3 (s : Str) : constV (.str s) = some (.str s) := rfl
theorem kv4 (b : List UInt8) : constV (.bytes b) = some (.bytes b) := rfl

theorem ifB_mk {b : Bool} {P Q : Prop} (h₁ : b = true → P) (h₂ : b = false → Q) : ifB b P Q := by
  cases b with
  | true => exact h₁ rfl
  | false => exact h₂ rfl
theorem ifB_t {b : Bool} {P Q : Prop} (h : b = true) : ifB b P Q = P := by subst h; exact propext Iff.rfl
theorem ifB_f {b : Bool} {P Q : Prop} (h : b = false) : ifB b P Q = Q := by subst h; exact propext Iff.rfl
theorem ifB_tt {P Q : Prop} : ifB true P Q = P := propext Iff.rfl
theorem ifB_ff {P Q : Prop} : ifB false P Q = Q := propext Iff.rfl
structure Ahead (p : Prop) : Prop where
  go : p
theorem ahead' {p : Prop} : Ahead p = p := propext ⟨fun h => h.go, fun h => ⟨h⟩⟩
theorem ahead {Φ : Fn} {hd : Bool} {r : Ss} {N : St → Prop} {R : AV → St → Prop} {C : St → Prop} {X : QX} :
    (∀ L H, Ahead (wpSs Φ hd r ⟨L, H⟩ N R C X) = wpSs Φ hd r ⟨L, H⟩ N R C X) ∧ (∀ L H i v, Ahead (wpSs Φ hd r (St.set ⟨L, H⟩ i v) N R C X) = wpSs Φ hd r (St.set ⟨L, H⟩ i v) N R C X) ∧ (∀ L H i v j w, Ahead (wpSs Φ hd r (St.set (St.set ⟨L, H⟩ i v) j w) N R C X) = wpSs Φ hd r (St.set (St.set ⟨L, H⟩ i v) j w) N R C X) ∧ (∀ L H i v j w k x, Ahead (wpSs Φ hd r (St.set (St.set (St.set ⟨L, H⟩ i v) j w) k x) N R C X) = wpSs Φ hd r (St.set (St.set (St.set ⟨L, H⟩ i v) j w) k x) N R C X) ∧ (∀ L H i o, Ahead (wpSs Φ hd r (St.put ⟨L, H⟩ i o) N R C X) = wpSs Φ hd r (St.put ⟨L, H⟩ i o) N R C X) :=
  ⟨fun _ _ => ahead', fun _ _ _ _ => ahead', fun _ _ _ _ _ _ => ahead', fun _ _ _ _ _ _ _ _ => ahead', fun _ _ _ _ => ahead'⟩
inductive Tg (k : AV → Hp → Prop) : Type where
  | mk
noncomputable def hold (k : AV → Hp → Prop) (_ : Tg k) (v : AV) (h : Hp) : Prop := k v h
theorem hold_ {k : AV → Hp → Prop} {t : Tg k} {v : AV} {h : Hp} : hold k t v h = k v h := rfl
theorem hold_mk {k : AV → Hp → Prop} {t : Tg k} {v : AV} {h : Hp} (x : k v h) : hold k t v h := x
theorem wh22 {Φ : Fn} {hd m : Bool} {u1} {f} {u2} {es} {u3} {st} {Q} {X} : wp Φ hd m (.call u1 f u2 es u3) st Q X = wpEs Φ hd es st (fun vs st₁ => Φ hd f vs st₁.hp (hold (fun v h => finQ m Q v ⟨st₁.loc, h⟩) .mk) (fun c h => X c ⟨st₁.loc, h⟩)) X := rfl
theorem wh23 {Φ : Fn} {hd m : Bool} {a} {n} {es} {u1} {u2} {st} {Q} {X} : wp Φ hd m (.met a n es u1 u2) st Q X = wp Φ hd false a st (fun va st₁ => metQ Φ hd va n st₁.hp fun f => wpEs Φ hd es st₁ (fun vs st₂ => Φ hd f (va :: vs) st₂.hp (hold (fun v h => finQ m Q v ⟨st₂.loc, h⟩) .mk) (fun c h => X c ⟨st₂.loc, h⟩)) X) X := rfl
section
variable {Φ : Fn} {hd : Bool} {st : St} {N : St → Prop} {R : AV → St → Prop} {C : St → Prop} {X : QX}
theorem wpSs_nil : wpSs Φ hd .nil st N R C X = N st := rfl
theorem wpSs_cons {s : S} {r : Ss} : wpSs Φ hd (.cons s r) st N R C X = wpS Φ hd s st (fun st₁ => Ahead (wpSs Φ hd r st₁ N R C X)) R C X := by
  rw [funext fun st₁ => ahead' (p := wpSs Φ hd r st₁ N R C X)]; rfl
theorem wpSs_one {s : S} : wpSs Φ hd (.cons s .nil) st N R C X = wpS Φ hd s st N R C X := rfl
theorem wpSs_s {s : S} {r : Ss} (h : wpS Φ hd s st (fun st₁ => Ahead (wpSs Φ hd r st₁ N R C X)) R C X) : wpSs Φ hd (.cons s r) st N R C X := by rw [wpSs_cons]; exact h
theorem wpSs_o {s : S} (h : wpS Φ hd s st N R C X) : wpSs Φ hd (.cons s .nil) st N R C X := h
theorem wpS_whl {t : E} {b : Ss} {p : Pos} : wpS Φ hd (.whl t b p) st N R C X = ∀ P : St → Prop, (∀ st', wp Φ hd true t st' (fun v st₁ => isB v fun c => ifB c (wpSs Φ hd b st₁ P R P X) (N st₁)) X → P st') → P st := rfl
theorem wpS_tr {b h : Ss} {x : Str} {c : Nat} {px ph p : Pos} : wpS Φ hd (.tr b x c px h ph p) st N R C X = (hd = false ∧ wpSs Φ hd b st N R C (fun c' st₁ => c' = c ∧ wpSs Φ true h st₁ N R C (fun _ _ => False))) := rfl
end
theorem wS0 {Φ} {hd} {x} {i} {px} {e} {p} {st} {N} {R} {C} {X} : wpS Φ hd (.asg x i px e p) st N R C X = wp Φ hd false e st (fun v st₁ => N (st₁.set i v)) X := rfl
theorem wS1 {Φ} {hd} {x} {i} {px} {e} {p} {st} {N} {R} {C} {X} : wpS Φ hd (.asgC x i px e p) st N R C X = wp Φ hd false e st (fun v st₁ => N (st₁.set i v)) X := rfl
theorem wS2 {Φ} {hd} {x} {i} {px} {y} {j} {py} {k} {pt} {e} {p} {st} {N} {R} {C} {X} : wpS Φ hd (.asg2 x i px y j py k pt e p) st N R C X = wp Φ hd false e st (fun v st₁ => unp2 v fun a b => N ((st₁.set i a).set j b)) X := rfl
theorem wS3 {Φ} {hd} {x} {i} {px} {y} {j} {py} {z} {l} {pz} {k} {pt} {e} {p} {st} {N} {R} {C} {X} : wpS Φ hd (.asg3 x i px y j py z l pz k pt e p) st N R C X = (hd = false ∧ wp Φ hd false e st (fun v st₁ => unp3 v fun a b c => N (((st₁.set i a).set j b).set l c)) X) := rfl
theorem wS4 {Φ} {hd} {x} {i} {px} {o} {n} {pa} {k} {pt} {e} {p} {st} {N} {R} {C} {X} : wpS Φ hd (.asgA x i px o n pa k pt e p) st N R C X = (hd = false ∧ wp Φ hd false e st (fun v st₁ => unp2 v fun a b => wp Φ hd false o (st₁.set i a) (fun ov st₂ => setAttQ ov n b st₂ N) X) X) := rfl
theorem wS5 {Φ} {hd} {o} {n} {pa} {e} {p} {st} {N} {R} {C} {X} : wpS Φ hd (.ast o n pa e p) st N R C X = wp Φ hd false e st (fun v st₁ => wp Φ hd false o st₁ (fun ov st₂ => setAttQ ov n v st₂ N) X) X := rfl
theorem wS6 {Φ} {hd} {o} {i} {ps} {e} {p} {st} {N} {R} {C} {X} : wpS Φ hd (.sst o i ps e p) st N R C X = wp Φ hd false e st (fun v st₁ => wp Φ hd false o st₁ (fun ov st₂ => wp Φ hd false i st₂ (fun iv st₃ => setItmQ ov iv v st₃ N) X) X) X := rfl
theorem wS7 {Φ} {hd} {e} {p} {st} {N} {R} {C} {X} : wpS Φ hd (.exp e p) st N R C X = wp Φ hd false e st (fun _ st₁ => N st₁) X := rfl
theorem wS8 {Φ} {hd} {t} {a} {b} {p} {st} {N} {R} {C} {X} : wpS Φ hd (.ite t a b p) st N R C X = wp Φ hd true t st (fun v st₁ => isB v fun c => ifB c (wpSs Φ hd a st₁ N R C X) (wpSs Φ hd b st₁ N R C X)) X := rfl
theorem wS9 {Φ} {hd} {e} {p} {st} {N} {R} {C} {X} : wpS Φ hd (.ret e p) st N R C X = wp Φ hd false e st (fun v st₁ => R v st₁) X := rfl
theorem wS10 {Φ} {hd} {x} {c} {px} {es} {pc} {p} {st} {N} {R} {C} {X} : wpS Φ hd (.rse x c px es pc p) st N R C X = (hd = false ∧ wpEs Φ hd es st (fun vs st₁ => 1 ≤ vs.length ∧ vs.length ≤ 2 ∧ X c st₁) X) := rfl
theorem wS11 {Φ} {hd} {p} {st} {N} {R} {C} {X} : wpS Φ hd (.cont p) st N R C X = C st := rfl
theorem wS12 {Φ} {hd} {p} {st} {N} {R} {C} {X} : wpS Φ hd (.ret0 p) st N R C X = R .none st := rfl
end Mine
end

noncomputable section
open PySem PySem.W PyProof.Rows
set_option maxRecDepth 100000
set_option maxHeartbeats 8000000
namespace Mine
noncomputable def lawD : DefRec := { name := "law", params := { posonlyargs := [], args := [{ arg := "script", annotation := none, pos := ⟨498, 8, 498, 14⟩ }], vararg := none, kwonlyargs := [], kw_defaults := [], kwarg := none, defaults := [] }, body := embSs b_law, scope := { kind := .function, names := [("script", .local), ("pot", .local), ("octets", .local), ("due", .local), ("heard", .local), ("kind", .local), ("is_letter", .local), ("_law_pot", .globalImplicit), ("_law_octets", .globalImplicit), ("_law_read", .globalImplicit), ("read_value", .globalImplicit), ("WordFault", .globalImplicit), ("_law_alike", .globalImplicit), ("read_kind", .globalImplicit), ("strict_kind", .globalImplicit)], isGenerator := false, isCoroutine := false }, pos := ⟨498, 0, 519, 124⟩ }
noncomputable def WS (l : OpenLaw) : Bool := l.wellSaid
lay_quick Mine.WS
theorem wsE : WS = WS := rfl
name_quick wsq for Mine.WS by Mine.wsE
theorem ws_run : PySem.W.Fast.wsq PySem.Challenge.rw_no0384_01 = true := by kernel_rfl
theorem law_said : PySem.Challenge.rw_no0384_01.wellSaid = true := (congrFun PySem.W.Fast.wsq_eq _).trans ws_run
set_option tactic.hygienic true in
theorem hd (call : WalkO vw loose (XL vw []) (kHook KZ KA kf_at).says PySem.Challenge.rw_no0384_01.row.toRowW lawD [] fun f vs => PySem.call f vs) : PySem.Challenge.rw_no0384_01.Holds := by
  w_on
  refine holds_law law_said fun said => ?_
  refine holds_open (q := vw) (loose := loose) (Xt := Xtp PySem.Challenge.pw_no0384_01) (XP := XL vw []) (Yf := (kHook KZ KA kf_at).obs) (Ya := (kHook KZ KA kf_at).val) (YP := (kHook KZ KA kf_at).says) (d := lawD) (kwd := []) (N := 6792) left (kHook KZ KA kf_at).of (kHook KZ KA kf_at).keeps (fun s e => xl_of s (Bool.and_eq_true_iff.mp e).1) XL.keeps (by kernel_rfl) (by kernel_rfl) (by rfl) (fun s e => recFacts_of (Bool.and_eq_true_iff.mp e).2) (by rfl) (by assumption) (by decide +kernel) ⟨rfl, rfl, rfl, rfl, rfl, by decide +kernel⟩ ?hw ?hc
  case hw => w_witness2
  case hc => exact call
end Mine
end

section
open Mine
local macro_rules
  | `(tactic| simp_arith! [$a,*]) => `(tactic| simp -dsimp only [↓ahead, ↓wS0, ↓wS1, ↓wS2, ↓wS3, ↓wS4, ↓wS5, ↓wS6, ↓wS7, ↓wS8, ↓wS9, ↓wS10, ↓wS11, ↓wS12, ↓wpSs_nil, ↓wq0, ↓wq1, ↓wq2, ↓wq3, ↓wq4, ↓wq5, ↓wq6, ↓wq7, ↓wq8, ↓wq9, ↓wq10, ↓wq11, ↓wq12, ↓wq13, ↓wq14, ↓wq15, ↓wq16, ↓wq17, ↓wq18, ↓wq19, ↓wq20, ↓wq21, ↓wh22, ↓wh23, ↓hold_, ↓wq24, ↓wq25, ↓wq26, ↓wq27, ↓wq28, ↓wq29, ↓wq30, ↓wqs0, ↓wqs1, ↓finQ, List.getElem?_cons_zero, List.getElem?_cons_succ, gcon, ↓cmpQ, ↓eqQ, ↓isB, ↓isI, ↓isY, ↓isO, ↓isN, ↓isT, ↓onO, ↓atL, ↓atD, ↓isSB, ↓isSt, ↓isLst, ↓truthQ, ↓ifB_tt, ↓ifB_ff, ↓ifB_t, ↓ifB_f, ↓inQ, ↓slcQ, ↓new, ↓joiQ, ↓bltQ, ↓blt1, ↓iterQ, ↓appQ, ↓setItmQ, ↓unp2, ↓unp3, St.set, St.put, isNone, List.set_cons_zero, List.set_cons_succ, List.lookup_cons, List.lookup_nil, Option.some.injEq, exists_eq_left', exists_eq_left, true_and, and_true, beq_self_eq_true, decide_true, decide_false, kv0, kv1, kv2, kv3, kv4, Nat.reduceEqDiff, Int.reduceLE, Int.reduceLT, Int.reduceNeg, Nat.reduceBEq, Nat.reduceAdd, Nat.reduceSub, reduceIte, Nat.reduceLeDiff, Nat.reduceLT, $a,*])
local macro_rules
  | `(tactic| simp_arith [$a,*]) => `(tactic| simp_arith! [↓subQ, ↓onS, ↓binQ, $a,*])
local macro_rules
  | `(tactic| simp_all_arith) => `(tactic| ((try (with_reducible refine hold_mk ?_; simp_arith [])); (try with_reducible refine Ahead.mk ?_); first | with_reducible refine wpSs_o ?_ | with_reducible refine wpSs_s ?_ | rw [wpSs_one] | rw [wpSs_cons]))

noncomputable section
open PySem PySem.W PyProof.Rows PySem.Calls PySem.Spec
set_option maxRecDepth 100000
namespace Mine
theorem zr1 {L a b n r r' : Nat} (hn : L - a = n) (h : r' < r) (h1 : r' = L - b) (h2 : r = L - (a + 1)) : L - b < n :=
  hn ▸ h1 ▸ Nat.lt_of_lt_of_le (h2 ▸ h) (Nat.sub_le_sub_left (Nat.le_succ a) L)
theorem zr2 {L a b r R : Nat} (h : r < R) (h1 : L - b = R) (h2 : L - a = r) : b < a := by
  subst h1 h2
  exact Nat.lt_of_not_le fun q => Nat.lt_irrefl _ (Nat.lt_of_lt_of_le h (Nat.sub_le_sub_left q L))
theorem zr3 {L b k R : Nat} (hb : b < L) (h : k ≤ R) (e : R = L - b) : b + k ≤ L := by
  subst e
  exact Nat.add_comm b k ▸ Nat.add_le_of_le_sub (Nat.le_of_lt hb) h
theorem zr4 {x y l : Nat} : min x (l - y) ≤ l := Nat.le_trans (Nat.min_le_right _ _) (Nat.sub_le _ _)
theorem bIn (n : Nat) (b : List UInt8) : byteIn (n : Int) b = b.any fun c => decide (n = c.toNat) :=
  congrArg (fun f => b.any f) (funext fun c => decide_eq_decide.mpr ⟨fun h => (Int.ofNat_inj.mp h).symm, fun h => congrArg _ h.symm⟩)
theorem iIn (k n : Nat) : ((k : Int) == (n : Int)) = decide (n = k) := by
  rw [Bool.eq_iff_iff, beq_iff_eq, decide_eq_true_iff]
  exact ⟨fun h => (Int.ofNat_inj.mp h).symm, fun h => congrArg _ h.symm⟩
section
variable {k : Nat} {hd : Bool} {hp : Hp} {Q : AV → Hp → Prop} {X : Nat → Hp → Prop}

set_option backward.eqns.nonrecursive false in
noncomputable def lowI (c : Int) : Int := if 65 ≤ c ∧ c ≤ 90 then c + 32 else c
theorem c_166 {c : Int} : iterF tab (k + 1) hd 166 [.int c] hp Q X = Q (.int (lowI c)) hp := by
  rw [at_166, b_lower_code]
  by_cases h1 : 65 ≤ c <;> by_cases h2 : c ≤ 90 <;> simp_arith [↓wrs0, ↓wrs1, lowI, h1, h2, decide_true, decide_false, and_true, and_false, true_and, false_and, if_true, if_false]

noncomputable def barred : List UInt8 := [40, 41, 60, 62, 64, 44, 59, 58, 92, 34, 47, 91, 93, 63, 61]
noncomputable def tokI (c : Int) : Bool := decide (32 < c) && (decide (c < 127) && !byteIn c barred)
theorem c_331 {c : Int} : iterF tab (k + 1) hd 331 [.int c] hp Q X = Q (.bool (tokI c)) hp := by
  rw [at_331, b_is_token_code]
  by_cases h1 : 32 < c <;> by_cases h2 : c < 127 
  · have h3 : 0 ≤ c := by omega
    have h4 : c < 256 := by omega
    simp_arith [↓wrs0, ↓wrs1, tokI, barred, h1, h2, h3, h4, decide_true, decide_false, Bool.true_and, Bool.false_and, true_and]
  all_goals simp_arith [↓wrs0, ↓wrs1, tokI, barred, h1, h2, decide_true, decide_false, Bool.true_and, Bool.false_and, Bool.and_false]
end
end Mine
end

noncomputable section
open PySem PySem.W PyProof.Rows PySem.Calls PySem.Spec
set_option maxRecDepth 100000
namespace Mine
section
variable {k : Nat} {hd : Bool} {hp : Hp} {Q : AV → Hp → Prop} {X : Nat → Hp → Prop}

theorem c_352 {c : Int} : iterF tab (k + 2) hd 352 [.int c] hp Q X = Q (.bool (decide (127 < c) || tokI c)) hp := by
  rw [at_352, b_is_worth_code]
  by_cases h1 : 127 < c <;> simp_arith [↓wrs0, ↓wrs1, ↓c_331, h1, Bool.true_or, Bool.false_or]

noncomputable def cur (o : List UInt8) (a : Nat) : AO := .inst 155 [(0, .bytes o), (1, .int a), (2, .int o.length)]
set_option backward.eqns.nonrecursive false in
noncomputable def pk (o : List UInt8) (a : Nat) : AV := match o[a]? with | some c => .int c.toNat | none => .int (-1)

theorem cut_nat {α : Type} {l : List α} {a b : Nat} : cutL l (some (a : Int)) (some (b : Int)) = (l.drop a).take (b - a) := by
  unfold cutL cutL.kms_pick' kms_lo kms_hi
  simp only [show ¬ ((a : Int) < 0) from by omega, show ¬ ((b : Int) < 0) from by omega, if_false, Int.toNat_natCast]
  apply List.ext_getElem?
  intro i
  simp only [List.getElem?_take, List.getElem?_drop]
  by_cases h : a ≤ l.length
  · rw [Nat.min_eq_left h]
    by_cases h2 : b ≤ l.length
    · rw [Nat.min_eq_left h2]
    · rw [Nat.min_eq_right (by omega)]
      split <;> split <;> first | rfl | omega | (rw [List.getElem?_eq_none (by omega)])
  · rw [Nat.min_eq_right (by omega : l.length ≤ a)]
    have : l[l.length + i]? = none := List.getElem?_eq_none (by omega)
    have : l[a + i]? = none := List.getElem?_eq_none (by omega)
    simp_all
theorem cut_pre {α : Type} {l : List α} {b : Nat} : cutL l none (some (b : Int)) = l.take b := by
  unfold cutL cutL.kms_pick' kms_lo kms_hi
  simp only [show ¬ ((b : Int) < 0) from by omega, if_false, Int.toNat_natCast, Nat.sub_zero, List.drop_zero]
  by_cases h2 : b ≤ l.length
  · rw [Nat.min_eq_left h2]
  · rw [Nat.min_eq_right (by omega), List.take_of_length_le (by omega), List.take_of_length_le (by omega)]
theorem cut_suf {α : Type} {l : List α} {b : Nat} : cutL l (some (b : Int)) none = l.drop b := by
  unfold cutL cutL.kms_pick' kms_lo kms_hi
  simp only [show ¬ ((b : Int) < 0) from by omega, if_false, Int.toNat_natCast]
  rw [List.take_of_length_le (by simp)]
  by_cases h2 : b ≤ l.length
  · rw [Nat.min_eq_left h2]
  · rw [Nat.min_eq_right (by omega), List.drop_of_length_le (by omega), List.drop_of_length_le (by omega)]
theorem getC {h : Hp} {x : AO} : (h ++ [x])[h.length]? = some x := by simp
theorem setC {h : Hp} {x y : AO} : (h ++ [x]).set h.length y = h ++ [y] := by simp
theorem getL {h g : Hp} {j : Nat} {x : AO} (e : h[j]? = some x) : (h ++ g)[j]? = some x := by
  rw [List.getElem?_append_left (List.getElem?_eq_some_iff.mp e).1, e]
theorem nc_one : ((1 : Nat) : Int) = 1 := rfl
theorem nat_succ (a : Nat) : (a : Int) + 1 = ((a + 1 : Nat) : Int) := rfl
theorem nat_two (a : Nat) : (a : Int) + 2 = ((a + 2 : Nat) : Int) := rfl

section
variable {j a : Nat} {o : List UInt8} {Φ : Fn}
theorem att_at {c n : Nat} {l : List (Nat × AV)} {v : AV} {P : AV → Prop} (h : hp[j]? = some (.inst c l)) (e : l.lookup n = some v) : attQ (.obj j) n hp P = P v := by
  show atI hp[j]? _ = _
  rw [h]
  exact propext ⟨fun ⟨_, q, p⟩ => Option.some.inj (e.symm.trans q) ▸ p, fun p => ⟨_, e, p⟩⟩
theorem met_at {c n f : Nat} {l : List (Nat × AV)} {P : Nat → Prop} (h : hp[j]? = some (.inst c l)) (e : l.lookup n = none) (m : meths c n = some f) : metQ Φ hd (.obj j) n hp P = P f := by
  show atI hp[j]? _ = _
  rw [h]
  show (l.lookup n = none ∧ onO (meths c n) P) = _
  rw [m]
  exact propext ⟨fun h => h.2, fun h => ⟨e, h⟩⟩
theorem cur_0 {P : AV → Prop} (h : hp[j]? = some (cur o a)) : attQ (.obj j) 0 hp P = P (.bytes o) := att_at h rfl
theorem cur_1 {P : AV → Prop} (h : hp[j]? = some (cur o a)) : attQ (.obj j) 1 hp P = P (.int a) := att_at h rfl
theorem cur_2 {P : AV → Prop} (h : hp[j]? = some (cur o a)) : attQ (.obj j) 2 hp P = P (.int o.length) := att_at h rfl
theorem cur_s {L : List (Option AV)} {N : St → Prop} {b : Nat} (h : hp[j]? = some (cur o a)) : setAttQ (.obj j) 1 (.int (b : Int)) ⟨L, hp⟩ N = N ⟨L, hp.set j (cur o b)⟩ := by
  simp only [setAttQ, isO, atI, h, cur]
  exact propext ⟨fun h => h.2, fun h => ⟨by simp, h⟩⟩
theorem cur_s1 {L : List (Option AV)} {N : St → Prop} {b : Nat} (h : hp[j]? = some (cur o a)) : setAttQ (.obj j) 1 (.int ((b : Int) + 1)) ⟨L, hp⟩ N = N ⟨L, hp.set j (cur o (b + 1))⟩ := cur_s h
theorem cur_10 {P : Nat → Prop} (h : hp[j]? = some (cur o a)) : metQ Φ hd (.obj j) 10 hp P = P 95 := met_at h rfl rfl
theorem cur_11 {P : Nat → Prop} (h : hp[j]? = some (cur o a)) : metQ Φ hd (.obj j) 11 hp P = P 103 := met_at h rfl rfl
theorem cur_12 {P : Nat → Prop} (h : hp[j]? = some (cur o a)) : metQ Φ hd (.obj j) 12 hp P = P 110 := met_at h rfl rfl
theorem cur_13 {P : Nat → Prop} (h : hp[j]? = some (cur o a)) : metQ Φ hd (.obj j) 13 hp P = P 117 := met_at h rfl rfl
theorem cur_14 {P : Nat → Prop} (h : hp[j]? = some (cur o a)) : metQ Φ hd (.obj j) 14 hp P = P 124 := met_at h rfl rfl
end
section
variable {j a : Nat} {o : List UInt8} (h : hp[j]? = some (cur o a))
include h
theorem c_95 : iterF tab (k + 1) hd 95 [.obj j] hp Q X = Q (.bool (decide (o.length ≤ a))) hp := by
  rw [at_95, b_Cursor_is_done]
  simp_arith [↓wrs0, ↓wrs1, ↓cur_1 h, ↓cur_2 h, Int.ofNat_le]
theorem c_103 : iterF tab (k + 1) hd 103 [.obj j] hp Q X = Q (pk o a) hp := by
  rw [at_103_1, b_Cursor_peek]
  cases e : o[a]? with
  | none =>
    have h1 : ¬ (a : Int) < o.length := by have := List.getElem?_eq_none_iff.mp e; omega
    simp_arith [↓wrs0, ↓wrs1, ↓cur_0 h, ↓cur_1 h, ↓cur_2 h, pk, e, Int.add_zero, Int.natCast_nonneg, h1]
  | some c =>
    have h1 : (a : Int) < o.length := by have := (List.getElem?_eq_some_iff.mp e).1; omega
    simp_arith [↓wrs0, ↓wrs1, ↓cur_0 h, ↓cur_1 h, ↓cur_2 h, pk, e, Int.add_zero, Int.natCast_nonneg, h1, Int.toNat_natCast]
theorem c_110 : iterF tab (k + 2) hd 110 [.obj j] hp Q X = (match o[a]? with | some c => Q (.int c.toNat) (hp.set j (cur o (a + 1))) | none => Q (.int (-1)) hp) := by
  rw [at_110, b_Cursor_take]
  cases e : o[a]? with
  | none => simp_arith [↓wrs0, ↓wrs1, ↓cur_11 h, ↓c_103 h, pk, e, show ¬ ((0 : Int) ≤ -1) from by decide]
  | some c => simp_arith [↓wrs0, ↓wrs1, ↓cur_11 h, ↓cur_1 h, ↓cur_s1 h, ↓c_103 h, pk, e, Int.natCast_nonneg]
theorem c_117 {c : UInt8} : iterF tab (k + 1) hd 117 [.obj j, .bytes [c]] hp Q X = Q (.bool (o[a]? == some c)) hp := by
  rw [at_117, b_Cursor_starts]
  cases e : o[a]? with
  | none =>
    have h1 : ¬ ((a + 1 : Nat) : Int) ≤ o.length := by have := List.getElem?_eq_none_iff.mp e; omega
    simp_arith [↓wrs0, ↓wrs1, ↓cur_0 h, ↓cur_1 h, ↓cur_2 h, e, List.length_singleton, nc_one, nat_succ, h1]
    rfl
  | some d =>
    have h1 : ((a + 1 : Nat) : Int) ≤ o.length := by have := (List.getElem?_eq_some_iff.mp e).1; omega
    have h2 : (o.drop a).take 1 = [d] := by
      rw [List.drop_eq_getElem_cons (List.getElem?_eq_some_iff.mp e).1, (List.getElem?_eq_some_iff.mp e).2]; rfl
    simp_arith [↓wrs0, ↓wrs1, ↓cur_0 h, ↓cur_1 h, ↓cur_2 h, e, List.length_singleton, nc_one, nat_succ, h1, cut_nat, Nat.add_sub_cancel_left, h2]
    rw [show ([d] == [c]) = (some d == some c) from by simp]
theorem c_124 {c : UInt8} : iterF tab (k + 2) hd 124 [.obj j, .bytes [c]] hp Q X = (if o[a]? = some c then Q (.bool true) (hp.set j (cur o (a + 1))) else Q (.bool false) hp) := by
  rw [at_124, b_Cursor_skip]
  by_cases e : o[a]? = some c
  · simp_arith [↓wrs0, ↓wrs1, ↓cur_13 h, ↓cur_1 h, ↓cur_s1 h, ↓c_117 h, e, if_true, Bool.not_true, List.length_singleton, nc_one]
  · have e' : (o[a]? == some c) = false := by simpa using e
    simp_arith [↓wrs0, ↓wrs1, ↓cur_13 h, ↓c_117 h, e', e, if_false, Bool.not_false]
end
theorem c_155 {o : List UInt8} : iterF tab (k + 2) hd 155 [.bytes o] hp Q X = Q (.obj hp.length) (hp ++ [cur o 0]) := by
  rw [at_155, at_88_2, b_Cursor_init]
  simp_arith [↓wrs0, ↓wrs1, attQ, setAttQ, atI, getC, setC, List.length_nil, List.length_cons, show ((-1 : Int) < 0) from by decide]
  exact propext ⟨fun h => h.2.2, fun h => ⟨of_decide_eq_true rfl, of_decide_eq_true rfl, h⟩⟩
end
end Mine
end

noncomputable section
open PySem PySem.W PyProof.Rows PySem.Calls PySem.Spec
set_option maxRecDepth 100000
namespace Mine
section
variable {k : Nat} {hd : Bool} {hp : Hp} {Q : AV → Hp → Prop} {X : Nat → Hp → Prop}

set_option backward.eqns.nonrecursive false in
noncomputable def asI (v : AV) : Int := match v with | .int i => i | _ => 0
theorem asI_i {i : Int} : asI (.int i) = i := rfl
theorem comQ_map {elt : AV → St → QV → Prop} {chk : Hp → Prop} {K : List AV → St → Prop} {H : Hp} (f : AV → AV) (L : AV → List (Option AV)) (hc : chk H) (hK : ∀ acc st st', st.hp = st'.hp → K acc st = K acc st') : ∀ (l acc : List AV) (st : St), st.hp = H →
    (∀ v ∈ l, ∀ st', st'.hp = H → ∀ K' : QV, elt v st' K' = K' (f v) ⟨L v, H⟩) → comQ (fun _ st₂ K => K true st₂) elt chk K l acc st = K (acc ++ l.map f) st
  | [], acc, st, e, _ => congrFun (congrArg K (List.append_nil acc).symm) st
  | v :: r, acc, st, e, h => by
    rw [comQ_cons]
    show ifB true _ _ = _
    rw [ifB_tt, h v (.head _) st e, comQ_map f L hc hK r _ _ rfl fun u hu => h u (.tail _ hu)]
    rw [hK _ _ st e.symm]
    simp [hc]
theorem comQ_filter {cond : AV → St → (Bool → St → Prop) → Prop} {elt : AV → St → QV → Prop} {chk : Hp → Prop} {K : List AV → St → Prop} {H : Hp} (p : AV → Bool) (f : AV → AV) (L L' : AV → List (Option AV)) (hc : chk H) (hK : ∀ acc st st', st.hp = st'.hp → K acc st = K acc st') : ∀ (l acc : List AV) (st : St), st.hp = H →
    (∀ v ∈ l, ∀ st', st'.hp = H → ∀ K', cond v st' K' = K' (p v) ⟨L' v, H⟩) → (∀ v ∈ l, p v = true → ∀ st', st'.hp = H → ∀ K' : QV, elt v st' K' = K' (f v) ⟨L v, H⟩) →
    comQ cond elt chk K l acc st = K (acc ++ (l.filter p).map f) st
  | [], acc, st, e, _, _ => congrFun (congrArg K (List.append_nil acc).symm) st
  | v :: r, acc, st, e, h, h' => by
    rw [comQ_cons, h v (.head _) st e]
    cases ep : p v with
    | true =>
      rw [ifB_tt, h' v (.head _) ep _ rfl, comQ_filter p f L L' hc hK r _ _ rfl (fun u hu => h u (.tail _ hu)) fun u hu => h' u (.tail _ hu)]
      rw [hK _ _ st e.symm]
      simp [hc, ep]
    | false =>
      rw [ifB_ff, comQ_filter p f L L' hc hK r _ _ rfl (fun u hu => h u (.tail _ hu)) fun u hu => h' u (.tail _ hu)]
      rw [hK _ _ st e.symm]
      simp [hc, ep]
theorem intsOf_map {α : Type} (g : α → Int) : ∀ l : List α, intsOf (l.map fun x => .int (g x)) = some (l.map g)
  | [] => rfl
  | x :: r => congrArg (Option.map (g x :: ·)) (intsOf_map g r)
theorem strsOf_map {α : Type} (g : α → Str) : ∀ l : List α, strsOf (l.map fun x => .str (g x)) = some (l.map g)
  | [] => rfl
  | x :: r => congrArg (Option.map (g x :: ·)) (strsOf_map g r)
theorem bytesOf_map {α : Type} (g : α → List UInt8) : ∀ l : List α, bytesOf (l.map fun x => .bytes (g x)) = some (l.map g)
  | [] => rfl
  | x :: r => congrArg (Option.map (g x :: ·)) (bytesOf_map g r)

noncomputable def sOf (l : List Nat) : Str := ⟨l.toArray⟩
theorem sOf_len {l : List Nat} : (sOf l).length = l.length := rfl
theorem sOf_app {a b : List Nat} : sOf a ++ sOf b = sOf (a ++ b) := by
  show Str.mk (a.toArray ++ b.toArray) = Str.mk _
  simp
theorem join_signs : ∀ l : List Nat, Txt.join "" (l.map fun n => sOf [n]) = sOf l := fun l => by
  unfold Txt.join
  rw [StrLaws.glued_eq_join]
  have e0 : ("" : Str) = sOf [] := rfl
  rw [e0]
  induction l with
  | nil => rfl
  | cons n r ih =>
    cases r with
    | nil => rfl
    | cons m r =>
      show sOf [n] ++ sOf [] ++ Str.join (sOf []) ((m :: r).map _) = _
      rw [ih, sOf_app, sOf_app]; rfl
set_option backward.eqns.nonrecursive false in
noncomputable def lowN (n : Nat) : Nat := if 65 ≤ n ∧ n ≤ 90 then n + 32 else n
theorem lowI_nat (n : Nat) : lowI (n : Int) = (lowN n : Int) := by
  unfold lowI lowN
  by_cases h : 65 ≤ n ∧ n ≤ 90
  · rw [if_pos h, if_pos (by omega)]; rfl
  · rw [if_neg h, if_neg (by omega)]
theorem lowN_lt {n : Nat} (h : n < 256) : lowN n < 256 := by unfold lowN; split <;> omega
noncomputable def lowB (c : UInt8) : UInt8 := (lowN c.toNat).toUInt8
theorem lowB_nat (c : UInt8) : (lowB c).toNat = lowN c.toNat := by
  unfold lowB
  have := lowN_lt c.toNat_lt
  simp [Nat.toUInt8, UInt8.toNat_ofNat]
  omega
noncomputable def small_ (b : List UInt8) : Str := sOf (b.map fun c => lowN c.toNat)

theorem c_171 {b : List UInt8} : iterF tab (k + 2) false 171 [.bytes b] hp Q X = Q (.bytes (b.map lowB)) (hp ++ [.list (b.map fun c => .int (lowN c.toNat : Nat))]) := by
  rw [at_171, b_lower]
  simp only [↓wrs0, ↓wrs1, ↓wS9, ↓wq24, ↓wq29, ↓wq2, ↓wqs1, ↓finQ, ↓iterQ, List.getElem?_cons_zero, true_and]
  rw [comQ_map (H := hp) (fun v => .int (lowI (asI v))) (fun v => [some v, some (.bytes b)]) trivial (fun _ _ _ e => by rw [e]) _ _ _ rfl (by
    intro v hv st' e K'
    obtain ⟨c, _, rfl⟩ := List.mem_map.mp hv
    simp_arith [↓wrs0, ↓wrs1, ↓c_166, e, asI_i])]
  simp_arith [↓wrs0, ↓wrs1, List.nil_append, List.map_map, getC, Function.comp_def, asI_i, lowI_nat]
  rw [intsOf_map (fun c : UInt8 => ((lowN c.toNat : Nat) : Int))]
  simp only [Option.some.injEq, exists_eq_left', List.map_map, Function.comp_def, Int.toNat_natCast]
  refine propext ⟨fun h => h.2, fun h => ⟨fun n hn => ?_, h⟩⟩
  obtain ⟨c, _, rfl⟩ := List.mem_map.mp hn
  have := lowN_lt c.toNat_lt
  omega
theorem signs_ok {b : List Nat} (h : b.length ≤ 4000) : ((b.map fun n => sOf [n]).map (·.length)).sum + (b.map fun n => sOf [n]).length ≤ 1048576 := by
  have : ∀ l : List Nat, ((l.map fun n => sOf [n]).map (·.length)).sum = l.length := by
    intro l; induction l with
    | nil => rfl
    | cons a r ih => rw [List.map_cons, List.map_cons, List.sum_cons, ih]; show 1 + _ = _ + 1; omega
  rw [this, List.length_map]; omega
theorem c_364 {b : List UInt8} (hb : b.length ≤ 1000) (h : ∀ g, Q (.str (small_ b)) (hp ++ g)) : iterF tab (k + 3) false 364 [.bytes b] hp Q X := by
  rw [at_364, b_small_word]
  simp only [↓wrs0, ↓wrs1, ↓wS9, ↓wq26, ↓wq1, ↓wq29, ↓wq22, ↓wq2, ↓wqs0, ↓wqs1, kv3, ↓finQ, ↓isSB, ↓iterQ, List.getElem?_cons_zero, true_and, ↓c_171]
  rw [comQ_map (H := hp ++ [AO.list (List.map (fun c => AV.int ↑(lowN c.toNat)) b)]) (fun v => .str (signOf (asI v))) (fun v => [some v, some (.bytes b)]) trivial (fun _ _ _ e => by rw [e]) _ _ _ rfl (by
    intro v hv st' e K'
    obtain ⟨c, _, rfl⟩ := List.mem_map.mp hv
    have := c.toNat_lt
    rw [e]
    exact propext ⟨fun h => h.2.2, fun h => ⟨by omega, by omega, h⟩⟩)]
  simp_arith [↓wrs0, ↓wrs1, List.nil_append, List.map_map, Function.comp_def, asI_i, getC]
  have e : ∀ c : UInt8, signOf ((lowB c).toNat : Nat) = sOf [lowN c.toNat] := fun c => by rw [lowB_nat]; rfl
  simp only [e]
  have e2 := strsOf_map (fun c : UInt8 => sOf [lowN c.toNat]) b
  have e3 := signs_ok (b := b.map fun c => lowN c.toNat) (by rw [List.length_map]; omega)
  have e4 := join_signs (b.map fun c => lowN c.toNat)
  simp only [List.map_map, Function.comp_def] at e3 e4
  refine ⟨by decide, _, e2, ?_⟩
  simp only [List.map_map, Function.comp_def]
  refine ⟨e3, ?_⟩
  rw [e4]
  refine ⟨by rw [sOf_len, List.length_map]; omega, ?_⟩
  rw [List.append_assoc]
  exact h _
theorem c_522 {b : List UInt8} (hb : b.length ≤ 1000) (h : ∀ g, Q (.str (small_ b)) (hp ++ g)) : iterF tab (k + 1) false 522 [.bytes b] hp Q X := by
  rw [at_522, b_l_small]
  simp only [↓wrs0, ↓wrs1, ↓wS9, ↓wq26, ↓wq1, ↓wq29, ↓wq22, ↓wq2, ↓wqs0, ↓wqs1, kv3, ↓finQ, ↓isSB, ↓iterQ, List.getElem?_cons_zero, true_and]
  rw [comQ_map (H := hp) (fun v => .str (signOf (lowI (asI v)))) (fun v => [some v, some (.bytes b)]) trivial (fun _ _ _ e => by rw [e]) _ _ _ rfl (by
    intro v hv st' e K'
    obtain ⟨c, _, rfl⟩ := List.mem_map.mp hv
    have := c.toNat_lt
    rw [e]
    by_cases h1 : (65 : Int) ≤ c.toNat <;> by_cases h2 : (c.toNat : Int) ≤ 90
    all_goals
      simp_arith [↓wrs0, ↓wrs1, h1, h2, asI_i, lowI, and_self, and_false, false_and, if_true, if_false]
      exact propext ⟨fun h => h.2.2, fun h => ⟨by omega, by omega, h⟩⟩)]
  simp_arith [↓wrs0, ↓wrs1, List.nil_append, List.map_map, Function.comp_def, asI_i, getC]
  have e : ∀ c : UInt8, signOf (lowI (c.toNat : Nat)) = sOf [lowN c.toNat] := fun c => by rw [lowI_nat]; rfl
  simp only [e]
  have e2 := strsOf_map (fun c : UInt8 => sOf [lowN c.toNat]) b
  have e3 := signs_ok (b := b.map fun c => lowN c.toNat) (by rw [List.length_map]; omega)
  have e4 := join_signs (b.map fun c => lowN c.toNat)
  simp only [List.map_map, Function.comp_def] at e3 e4
  refine ⟨by decide, _, e2, ?_⟩
  simp only [List.map_map, Function.comp_def]
  refine ⟨e3, ?_⟩
  rw [e4]
  exact ⟨by rw [sOf_len, List.length_map]; omega, h _⟩
end
end Mine
end

noncomputable section
open PySem PySem.W PyProof.Rows PySem.Calls PySem.Spec
set_option maxRecDepth 100000
namespace Mine

noncomputable def isWh (n : Nat) : Bool := n == 9 || n == 10 || n == 13 || n == 32
set_option backward.eqns.nonrecursive false in
noncomputable def cmt : Nat → List UInt8 → Option (List UInt8)
  | _, [] => none
  | d, c :: r =>
    if c.toNat = 92 then
      match r with
      | [] => none
      | x :: r' => if x.toNat = 13 ∨ x.toNat = 10 then none else cmt d r'
    else if c.toNat = 13 ∧ (r.head?.map (·.toNat)) ≠ some 10 then none
    else if c.toNat = 40 then cmt (d + 1) r
    else if c.toNat = 41 then (if d = 1 then some r else cmt (d - 1) r)
    else cmt d r
set_option backward.eqns.nonrecursive false in
noncomputable def lc {α : Type} (l : List UInt8) (f : UInt8 → List UInt8 → Option α) : Option α := match l with
  | [] => none
  | x :: r => f x r
theorem lc_cons {α : Type} {x : UInt8} {r : List UInt8} {f : UInt8 → List UInt8 → Option α} : lc (x :: r) f = f x r := rfl
theorem lc_some {α : Type} {l : List UInt8} {f : UInt8 → List UInt8 → Option α} {y : α} (h : lc l f = some y) : ∃ x r, l = x :: r ∧ f x r = some y := by
  cases l with
  | nil => exact non h
  | cons x r => exact ⟨x, r, rfl, h⟩
theorem cmt_cons {d : Nat} {c : UInt8} {r : List UInt8} : cmt d (c :: r) = if c.toNat = 92 then lc r (fun x r' => if x.toNat = 13 ∨ x.toNat = 10 then none else cmt d r')
    else if c.toNat = 13 ∧ (r.head?.map (·.toNat)) ≠ some 10 then none
    else if c.toNat = 40 then cmt (d + 1) r
    else if c.toNat = 41 then (if d = 1 then some r else cmt (d - 1) r)
    else cmt d r := by
  cases r <;> rfl
theorem cmt_len : ∀ (n d : Nat) (l r : List UInt8), l.length ≤ n → cmt d l = some r → r.length < l.length := by
  intro n
  induction n with
  | zero =>
    intro d l r hn h
    cases l with
    | nil => exact non h
    | cons c l => exact absurd hn (Nat.not_succ_le_zero _)
  | succ n ih =>
    intro d l r hn h
    cases l with
    | nil => exact non h
    | cons c l =>
      have hn : l.length ≤ n := Nat.le_of_succ_le_succ hn
      have go : ∀ {d'}, cmt d' l = some r → r.length < (c :: l).length := fun h => Nat.lt_succ_of_lt (ih _ l r hn h)
      rw [cmt_cons] at h
      split at h
      · cases l with
        | nil => exact non h
        | cons x l =>
          rw [lc_cons] at h
          split at h
          · exact non h
          · exact Nat.lt_succ_of_lt (Nat.lt_succ_of_lt (ih d _ r (Nat.le_of_succ_le hn) h))
      · split at h
        · exact non h
        · split at h
          · exact go h
          · split at h
            · split at h
              · cases h; exact Nat.lt_succ_self _
              · exact go h
            · exact go h
set_option backward.eqns.nonrecursive false in
noncomputable def skpN : Nat → List UInt8 → Option (List UInt8)
  | 0, _ => none
  | n + 1, l => match l with
    | [] => some []
    | c :: r => if isWh c.toNat then skpN n r else if c.toNat = 40 then (cmt 1 r).bind (skpN n) else some (c :: r)
theorem skpN_c {n : Nat} {c : UInt8} {r : List UInt8} : skpN (n + 1) (c :: r) = if isWh c.toNat then skpN n r else if c.toNat = 40 then (cmt 1 r).bind (skpN n) else some (c :: r) := rfl
theorem skpN_eq : ∀ (n m : Nat) (l : List UInt8), l.length < n → l.length < m → skpN n l = skpN m l := by
  intro n
  induction n with
  | zero => exact fun _ _ h => absurd h (Nat.not_lt_zero _)
  | succ n ih =>
    intro m l h1 h2
    cases m with
    | zero => exact absurd h2 (Nat.not_lt_zero _)
    | succ m =>
      cases l with
      | nil => rfl
      | cons c r =>
        have h1 := Nat.lt_of_succ_lt_succ h1
        have h2 := Nat.lt_of_succ_lt_succ h2
        rw [skpN_c, skpN_c, ih m r h1 h2]
        cases e : cmt 1 r with
        | none => rfl
        | some r' =>
          have l3 := cmt_len _ _ _ _ (Nat.le_refl _) e
          rw [Option.bind_some, Option.bind_some, ih m r' (Nat.lt_trans l3 h1) (Nat.lt_trans l3 h2)]
noncomputable def skp (l : List UInt8) : Option (List UInt8) := skpN (l.length + 1) l
theorem skp_nil : skp [] = some [] := rfl
theorem skp_cons {c : UInt8} {r : List UInt8} : skp (c :: r) = if isWh c.toNat then skp r else if c.toNat = 40 then (cmt 1 r).bind skp else some (c :: r) := by
  show (if isWh c.toNat then skpN (r.length + 1) r else if c.toNat = 40 then (cmt 1 r).bind (skpN (r.length + 1)) else some (c :: r)) = _
  cases e : cmt 1 r with
  | none => rfl
  | some r' =>
    have l3 := cmt_len _ _ _ _ (Nat.le_refl _) e
    rw [Option.bind_some, Option.bind_some, skpN_eq _ (r'.length + 1) r' (Nat.lt_succ_of_lt l3) (Nat.lt_succ_self _)]
    rfl
set_option backward.eqns.nonrecursive false in
noncomputable def posV (o : List UInt8) : Option (List UInt8) → AV
  | none => .none
  | some r => .int ((o.length - r.length : Nat) : Int)
theorem dropc {o r : List UInt8} {c : UInt8} {a : Nat} (e : o.drop a = c :: r) : o[a]? = some c ∧ a < o.length ∧ o.drop (a + 1) = r := by
  have h : a < o.length := by
    apply Decidable.byContradiction
    intro h
    rw [List.drop_of_length_le (by omega)] at e; cases e
  rw [List.drop_eq_getElem_cons h] at e
  injection e with e1 e2
  exact ⟨by rw [List.getElem?_eq_getElem h, e1], h, e2⟩
theorem dropn {o : List UInt8} {a : Nat} (ha : a ≤ o.length) (e : o.drop a = []) : a = o.length := by
  have := List.drop_eq_nil_iff.mp e; omega
theorem drop_pos {o r : List UInt8} {a : Nat} (ha : a ≤ o.length) (e : o.drop a = r) : o.length - r.length = a := by
  have : r.length = o.length - a := by rw [← e, List.length_drop]
  omega
theorem ieq (n m : Nat) : ((n : Int) == (no_index (@OfNat.ofNat Int m (@instOfNat m)))) = decide (n = m) := by
  rw [Bool.eq_iff_iff, beq_iff_eq, decide_eq_true_iff]
  constructor
  · intro h; exact Int.ofNat.inj h
  · intro h; subst h; rfl
theorem in_white (n : Nat) : byteIn (n : Int) [32, 9, 13, 10] = isWh n := by
  rw [bIn]
  exact (by decide : ∀ a b c d : Bool, (a || (b || (c || (d || false)))) = (b || d || c || a)) (decide (n = 32)) (decide (n = 9)) (decide (n = 13)) (decide (n = 10))
theorem byte_rng (c : UInt8) : 0 ≤ (c.toNat : Int) ∧ (c.toNat : Int) < 256 := ⟨by omega, by have := c.toNat_lt; omega⟩
theorem u8 {c d : UInt8} : c.toNat = d.toNat ↔ c = d := UInt8.toNat_inj
theorem beq_13_10 {c : UInt8} {r : List UInt8} : ((c :: r).take 2 == [13, 10]) = decide (c.toNat = 13 ∧ (r.head?.map (·.toNat)) = some 10) := by
  rw [Bool.eq_iff_iff, beq_iff_eq, decide_eq_true_iff]
  have e1 : c = 13 ↔ c.toNat = 13 := u8 (d := 13) |>.symm
  cases r with
  | nil => simp
  | cons x r =>
    have e2 : x = 10 ↔ x.toNat = 10 := u8 (d := 10) |>.symm
    simp [e1, e2]
theorem sub_two (a : Nat) : a + 2 - a = 2 := by omega
theorem in_ends0 : inTup (.bytes []) [.bytes [], .bytes [13], .bytes [10]] = some true := rfl
theorem in_ends1 {c : UInt8} : inTup (.bytes [c]) [.bytes [], .bytes [13], .bytes [10]] = some (decide (c.toNat = 13 ∨ c.toNat = 10)) := by
  have e1 : c = 13 ↔ c.toNat = 13 := u8 (d := 13) |>.symm
  have e2 : c = 10 ↔ c.toNat = 10 := u8 (d := 10) |>.symm
  have e3 : ∀ d : UInt8, ([d] == [c]) = decide (c = d) := fun d => by
    rw [Bool.eq_iff_iff, beq_iff_eq, decide_eq_true_iff]; exact ⟨fun h => by injection h with h; exact h.symm, fun h => by rw [h]⟩
  show some (([[], [13], [10]] : List (List UInt8)).any (· == [c])) = _
  simp only [List.any_cons, List.any_nil, e3, e1, e2, Bool.or_false]
  rw [show (([] : List UInt8) == [c]) = false from rfl, Bool.false_or, Bool.decide_or]

section
variable {k : Nat} {hd : Bool} {hp : Hp} {Q : AV → Hp → Prop} {X : Nat → Hp → Prop}
theorem c_498 {o : List UInt8} {a : Nat} (ha : a ≤ o.length) (h : Q (posV o (skp (o.drop a))) hp) : iterF tab (k + 1) hd 498 [.bytes o, .int (a : Int)] hp Q X := by
  (rw [at_498, b_l_past]; simp_all_arith; rw [wpS_whl])
  intro P hP
  suffices key : ∀ n a, o.length - a = n → a ≤ o.length → Q (posV o (skp (o.drop a))) hp → ∀ dv, P ⟨[some (.bytes o), some (.int (a : Int)), dv], hp⟩ from key _ a rfl ha h none
  clear h
  intro n
  induction n using Nat.strongRecOn with
  | _ n ih =>
  intro a hn ha h dv
  refine hP _ ?_
  cases e : o.drop a with
  | nil =>
    have ea := dropn ha e
    rw [e, skp_nil] at h
    have h : Q (.int (o.length - 0 : Nat)) hp := h
    simp_arith [ea, Int.lt_irrefl]
    (repeat (simp_all_arith; simp_arith []))
    exact h
  | cons c r =>
    obtain ⟨e1, e2, e3⟩ := dropc e
    rw [e, skp_cons] at h
    have l1 : (a : Int) < o.length := Int.ofNat_lt.mpr e2
    simp_arith [l1]
    cases hw : isWh c.toNat with
    | true =>
      rw [hw, if_pos rfl] at h
      (repeat (simp_all_arith; simp_arith [e1, hw, in_white, byte_rng, Int.natCast_nonneg, Int.toNat_natCast, nat_succ]))
      exact ih _ (by omega) (a + 1) rfl (by omega) (by rw [e3]; exact h) _
    | false =>
      rw [hw, if_neg (by simp)] at h
      by_cases h40 : c.toNat = 40
      · rw [if_pos h40] at h
        (repeat (simp_all_arith; simp_arith [e1, show isWh 40 = false from rfl, show (((40 : Nat) : Int) < 256) = True from eq_true (by decide), in_white, byte_rng, Int.natCast_nonneg, Int.toNat_natCast, nat_succ, ieq, h40]))
        first | rw [wpS_whl] | (simp_all_arith; rw [wpS_whl])
        intro P2 hP2
        suffices inner : ∀ m b d, o.length - b = m → b ≤ o.length → 1 ≤ d → (match cmt d (o.drop b) with
            | none => Q .none hp
            | some r => ∀ b', o.drop b' = r → b' ≤ o.length → P ⟨[some (.bytes o), some (.int (b' : Int)), some (.int 0)], hp⟩) → P2 ⟨[some (.bytes o), some (.int (b : Int)), some (.int (d : Int))], hp⟩ from by
          refine inner _ (a + 1) 1 rfl (by omega) (Nat.le_refl _) ?_
          rw [e3]
          cases ec : cmt 1 r with
          | none => rw [ec] at h; exact h
          | some r' =>
            rw [ec] at h
            intro b' e' hb'
            have := cmt_len _ _ _ _ (Nat.le_refl _) ec
            have l2 : r'.length = o.length - b' := by rw [← e', List.length_drop]
            have l3 : r.length = o.length - (a + 1) := by rw [← e3, List.length_drop]
            exact ih (o.length - b') (by exact zr1 (by assumption) (by assumption) (by assumption) (by assumption)) b' rfl hb' (by rw [e']; exact h) _
        intro m
        induction m using Nat.strongRecOn with
        | _ m ih2 =>
        intro b d hm hb hd h
        refine hP2 _ ?_
        have d1 : (0 : Int) < d := by omega
        simp_arith [d1]
        cases eb : o.drop b with
        | nil =>
          rw [eb] at h
          have ea := dropn hb eb
          have h : Q .none hp := h
          (repeat (simp_all_arith; simp_arith [ea, Int.le_refl]))
          exact h
        | cons x l =>
          obtain ⟨f1, f2, f3⟩ := dropc eb
          rw [eb] at h
          rw [cmt_cons] at h
          have l2 : ¬ ((o.length : Int) ≤ b) := by omega
          by_cases h92 : x.toNat = 92
          · have h13 : ¬ x.toNat = 13 := by omega
            rw [if_pos h92] at h
            cases l with
            | nil =>
              have h : Q .none hp := h
              (repeat (simp_all_arith; simp_arith [l2, f1, f3, byte_rng, Int.natCast_nonneg, Int.toNat_natCast, nat_succ, nat_two, ieq, h13, h92, cut_nat, List.take_nil, in_ends0]))
              exact h
            | cons y l' =>
              by_cases hy : y.toNat = 13 ∨ y.toNat = 10
              · rw [lc_cons, if_pos hy] at h
                have h : Q .none hp := h
                (repeat (simp_all_arith; simp_arith [l2, f1, f3, byte_rng, Int.natCast_nonneg, Int.toNat_natCast, nat_succ, nat_two, ieq, h13, h92, cut_nat, Nat.add_sub_cancel_left, List.take_succ_cons, List.take_zero, in_ends1, hy]))
                exact h
              · obtain ⟨g1, g2, g3⟩ := dropc f3
                rw [lc_cons, if_neg hy] at h
                (repeat (simp_all_arith; simp_arith [l2, f1, f3, byte_rng, Int.natCast_nonneg, Int.toNat_natCast, nat_succ, nat_two, ieq, h13, h92, cut_nat, Nat.add_sub_cancel_left, List.take_succ_cons, List.take_zero, in_ends1, hy]))
                exact ih2 _ (by omega) (b + 1 + 1) d rfl (by omega) hd (by rw [g3]; exact h)
          · rw [if_neg h92] at h
            by_cases hc : x.toNat = 13 ∧ (l.head?.map (·.toNat)) ≠ some 10
            · rw [if_pos hc] at h
              have h : Q .none hp := h
              (repeat (simp_all_arith; simp_arith [l2, f1, eb, byte_rng, Int.natCast_nonneg, Int.toNat_natCast, nat_succ, nat_two, ieq, hc.1, cut_nat, Nat.add_sub_cancel_left, beq_13_10, hc.2, and_false, Bool.not_false]))
              exact h
            · rw [if_neg hc] at h
              have h13 : x.toNat = 13 → l.head?.map (·.toNat) = some 10 := fun q => Decidable.byContradiction fun w => hc ⟨q, w⟩
              have next : ∀ d' : Nat, 1 ≤ d' → (match cmt d' l with
                  | none => Q .none hp
                  | some r => ∀ b', o.drop b' = r → b' ≤ o.length → P ⟨[some (.bytes o), some (.int (b' : Int)), some (.int 0)], hp⟩) → P2 ⟨[some (.bytes o), some (.int ((b + 1 : Nat) : Int)), some (.int (d' : Int))], hp⟩ := fun d' hd' h' =>
                ih2 _ (by omega) (b + 1) d' rfl (by omega) hd' (by rw [f3]; exact h')
              have hd1 : (d : Int) - 1 = ((d - 1 : Nat) : Int) := by omega
              by_cases q13 : x.toNat = 13
              · have q := h13 q13
                rw [if_neg (by omega), if_neg (by omega)] at h
                (repeat (simp_all_arith; simp_arith [l2, f1, eb, byte_rng, Int.natCast_nonneg, Int.toNat_natCast, nat_succ, nat_two, ieq, q13, q, cut_nat, Nat.add_sub_cancel_left, beq_13_10, Bool.not_true]))
                exact next d hd h
              · by_cases q40 : x.toNat = 40
                · rw [if_pos q40] at h
                  (repeat (simp_all_arith; simp_arith [l2, f1, eb, byte_rng, Int.natCast_nonneg, Int.toNat_natCast, nat_succ, nat_two, ieq, q40]))
                  exact next (d + 1) (by omega) h
                · rw [if_neg q40] at h
                  by_cases q41 : x.toNat = 41
                  · rw [if_pos q41] at h
                    (repeat (simp_all_arith; simp_arith [l2, f1, eb, byte_rng, Int.natCast_nonneg, Int.toNat_natCast, nat_succ, nat_two, ieq, q41, hd1]))
                    by_cases q1 : d = 1
                    · rw [if_pos q1] at h
                      subst q1
                      refine hP2 _ ?_
                      simp_arith [Nat.sub_self, show ¬ ((0 : Int) < ((0 : Nat) : Int)) from by decide]
                      exact h _ f3 (by omega)
                    · rw [if_neg q1] at h
                      exact next (d - 1) (by omega) h
                  · rw [if_neg q41] at h
                    (repeat (simp_all_arith; simp_arith [l2, f1, eb, byte_rng, Int.natCast_nonneg, Int.toNat_natCast, nat_succ, nat_two, ieq, q13, h92, q40, q41]))
                    exact next d hd h
      · rw [if_neg h40] at h
        (repeat (simp_all_arith; simp_arith [e1, hw, in_white, byte_rng, Int.natCast_nonneg, Int.toNat_natCast, nat_succ, ieq, h40]))
        have h : Q (.int (o.length - (c :: r).length : Nat)) hp := h
        rw [drop_pos ha e] at h
        exact h
end
end Mine
end

noncomputable section
open PySem PySem.W PyProof.Rows PySem.Calls PySem.Spec
set_option maxRecDepth 100000
namespace Mine
theorem beq_one {c d : UInt8} : ([c] == [d]) = decide (c.toNat = d.toNat) := by
  rw [Bool.eq_iff_iff, beq_iff_eq, decide_eq_true_iff, u8]; exact ⟨fun h => by injection h, fun h => by rw [h]⟩
theorem beq_nil1 {d : UInt8} : (([] : List UInt8) == [d]) = false := rfl
theorem in_never (n : Nat) : inTup (.int (n : Int)) [.int 0, .int 10, .int 13] = some (decide (n = 0 ∨ n = 10 ∨ n = 13)) := by
  rw [Bool.decide_or, Bool.decide_or, ← iIn 0, ← iIn 10, ← iIn 13]
  exact congrArg some (congrArg (fun x => _ || (_ || x)) (Bool.or_false _))
set_option backward.eqns.nonrecursive false in
noncomputable def ins (l : List UInt8) : Option (List UInt8 × List UInt8) := lc l fun c r =>
    if c.toNat = 92 then lc r fun x r' => if x.toNat = 13 ∨ x.toNat = 10 then none else some ([x], r')
    else if c.toNat = 10 then some ([], r)
    else if c.toNat = 13 then lc r fun x r' => if x.toNat = 10 then some ([], r') else none
    else some ([c], r)
theorem ins_c {c : UInt8} {r : List UInt8} : ins (c :: r) = if c.toNat = 92 then lc r fun x r' => if x.toNat = 13 ∨ x.toNat = 10 then none else some ([x], r')
    else if c.toNat = 10 then some ([], r)
    else if c.toNat = 13 then lc r fun x r' => if x.toNat = 10 then some ([], r') else none
    else some ([c], r) := rfl
noncomputable def NZ (o : List UInt8) : Prop := ∀ c ∈ o, c.toNat ≠ 0
theorem drop_mem {o r : List UInt8} {c : UInt8} {a : Nat} (e : o.drop a = c :: r) : c ∈ o := List.mem_of_mem_drop (by rw [e]; exact .head _)
section
variable {k : Nat} {hd : Bool} {hp : Hp} {Q : AV → Hp → Prop} {X : Nat → Hp → Prop}
theorem c_248 {o r : List UInt8} {c : UInt8} {a : Nat} (e : o.drop a = c :: r) : iterF tab (k + 1) hd 248 [.bytes o, .int (a : Int)] hp Q X =
    Q (.int (if c.toNat = 10 then ((a + 1 : Nat) : Int) else if c.toNat = 13 ∧ r.head?.map (·.toNat) = some 10 then ((a + 2 : Nat) : Int) else -1)) hp := by
  rw [at_248, b_line_end]
  have ha : ((o.drop a).take 1 == [10]) = decide (c.toNat = 10) := by rw [e]; exact beq_one
  have hb : ((o.drop a).take 2 == [13, 10]) = decide (c.toNat = 13 ∧ r.head?.map (·.toNat) = some 10) := by rw [e]; exact beq_13_10
  by_cases h10 : c.toNat = 10
  · rw [if_pos h10]
    simp_arith [↓wrs0, ↓wrs1, nat_succ, cut_nat, Nat.add_sub_cancel_left, ha, h10]
  · by_cases h13 : c.toNat = 13 ∧ r.head?.map (·.toNat) = some 10
    · rw [if_neg h10, if_pos h13]
      simp_arith [↓wrs0, ↓wrs1, nat_succ, nat_two, cut_nat, Nat.add_sub_cancel_left, ha, hb, h10, h13, and_self]
    · rw [if_neg h10, if_neg h13]
      simp_arith [↓wrs0, ↓wrs1, nat_succ, nat_two, cut_nat, Nat.add_sub_cancel_left, ha, hb, h10, h13]
theorem c_255 {o : List UInt8} {a : Nat} {g : Int} (ha : a ≤ o.length) (hz : NZ o) (h : match ins (o.drop a) with
    | none => X 59 hp
    | some (b, r) => ∀ a', o.drop a' = r → a' ≤ o.length → Q (.tup [.bytes b, .int (a' : Int)]) hp) : iterF tab (k + 2) false 255 [.bytes o, .int (a : Int), .int g] hp Q X := by
  rw [at_255, b_inside_at]
  cases e : o.drop a with
  | nil =>
    rw [e] at h
    have h : X 59 hp := h
    have ea := dropn ha e
    (repeat (simp_all_arith; simp_arith [ea, Int.le_refl, List.length_cons, List.length_nil]))
    exact h
  | cons c r =>
    obtain ⟨e1, e2, e3⟩ := dropc e
    rw [e] at h
    have l2 : ¬ ((o.length : Int) ≤ a) := by omega
    rw [ins_c] at h
    by_cases h92 : c.toNat = 92
    · rw [if_pos h92] at h
      cases r with
      | nil =>
        have h : X 59 hp := h
        have l3 : a + 1 = o.length := by have := congrArg List.length e; rw [List.length_drop] at this; simp at this; omega
        (repeat (simp_all_arith; simp_arith [l2, e1, byte_rng, Int.natCast_nonneg, Int.toNat_natCast, nat_succ, nat_two, ieq, h92, l3, List.length_cons, List.length_nil]))
        exact h
      | cons x r' =>
        obtain ⟨f1, f2, f3⟩ := dropc e3
        have l3 : (((a + 1 : Nat) : Int) == (o.length : Int)) = false := by rw [beq_eq_false_iff_ne]; omega
        have hx0 := hz _ (drop_mem e3)
        by_cases hx : x.toNat = 13 ∨ x.toNat = 10
        · rw [lc_cons, if_pos hx] at h
          have h : X 59 hp := h
          have hx' : x.toNat = 0 ∨ x.toNat = 10 ∨ x.toNat = 13 := by omega
          (repeat (simp_all_arith; simp_arith [l2, e1, f1, byte_rng, Int.natCast_nonneg, Int.toNat_natCast, nat_succ, nat_two, ieq, h92, l3, in_never, hx', List.length_cons, List.length_nil]))
          exact h
        · rw [lc_cons, if_neg hx] at h
          have hx' : ¬ (x.toNat = 0 ∨ x.toNat = 10 ∨ x.toNat = 13) := by omega
          (repeat (simp_all_arith; simp_arith [l2, e1, f1, e3, byte_rng, Int.natCast_nonneg, Int.toNat_natCast, nat_succ, nat_two, ieq, h92, l3, in_never, hx', cut_nat, show a + 2 - (a + 1) = 1 from by omega, List.take_succ_cons, List.take_zero]))
          exact h _ f3 (by omega)
    · rw [if_neg h92] at h
      have hc0 := hz _ (drop_mem e)
      (repeat (simp_all_arith; simp_arith [l2, e1, byte_rng, Int.natCast_nonneg, Int.toNat_natCast, nat_succ, nat_two, ieq, h92, ↓c_248 e]))
      by_cases h10 : c.toNat = 10
      · rw [if_pos h10] at h
        simp_arith [h10, if_true, Int.natCast_nonneg]
        exact h _ e3 (by omega)
      · rw [if_neg h10] at h
        by_cases h13 : c.toNat = 13
        · rw [if_pos h13] at h
          cases r with
          | nil =>
            have h : X 59 hp := h
            simp_arith [h13, e1, Int.natCast_nonneg, Int.toNat_natCast, in_never, List.length_cons, List.length_nil, List.head?_nil, Option.map_none, false_and, and_false, if_false, reduceCtorEq, or_true, true_or]
            exact h
          | cons x r' =>
            by_cases hx : x.toNat = 10
            · rw [lc_cons, if_pos hx] at h
              obtain ⟨f1, f2, f3⟩ := dropc e3
              simp_arith [h13, hx, List.head?_cons, Option.map_some, Int.natCast_nonneg]
              exact h _ f3 (by omega)
            · have h : X 59 hp := by rw [lc_cons, if_neg hx] at h; exact h
              simp_arith [h13, hx, e1, Int.natCast_nonneg, Int.toNat_natCast, in_never, List.length_cons, List.length_nil, List.head?_cons, Option.map_some, false_and, and_false, if_false, reduceCtorEq, or_true, true_or]
              exact h
        · rw [if_neg h13] at h
          have hx' : ¬ (c.toNat = 0 ∨ c.toNat = 10 ∨ c.toNat = 13) := by omega
          simp_arith [h13, h10, hc0, e1, e, cut_nat, nat_succ, Nat.add_sub_cancel_left, List.take_succ_cons, List.take_zero, Int.natCast_nonneg, Int.toNat_natCast, in_never, false_and, if_false, or_self, or_false]
          exact h _ e3 (by omega)
end
end Mine
end

noncomputable section
open PySem PySem.W PyProof.Rows PySem.Calls PySem.Spec
set_option maxRecDepth 100000
namespace Mine
set_option backward.eqns.nonrecursive false in
noncomputable def w1 (n : Nat) : Int := if n = 40 then 1 else if n = 92 then 1 else if n = 41 then -1 else 0
set_option backward.eqns.nonrecursive false in
noncomputable def wt : List UInt8 → Int
  | [] => 0
  | c :: r => w1 c.toNat + wt r
noncomputable def Dp (d : Int) (l : List UInt8) : Prop := ∀ n, d + wt (l.take n) ≤ 20
theorem wt_c {c : UInt8} {r : List UInt8} : wt (c :: r) = w1 c.toNat + wt r := rfl
theorem Dp.tail {d : Int} {c : UInt8} {r : List UInt8} (h : Dp d (c :: r)) : Dp (d + w1 c.toNat) r := fun n => by
  have := h (n + 1)
  rw [List.take_succ_cons, wt_c] at this
  omega
theorem Dp.mono {d e : Int} {r : List UInt8} (h : Dp d r) (l : e ≤ d) : Dp e r := fun n => by have := h n; omega
theorem Dp.zero {d : Int} {r : List UInt8} (h : Dp d r) : d ≤ 20 := by have := h 0; rw [List.take_zero, show wt [] = 0 from rfl] at this; omega
theorem w1_ge (n : Nat) : -1 ≤ w1 n := by unfold w1; split; · omega
                                          · split; · omega
                                            · split <;> omega
theorem cutL_map {α β : Type} {f : α → β} {l : List α} {lo hi : Option Int} : cutL (l.map f) lo hi = (cutL l lo hi).map f := by
  unfold cutL cutL.kms_pick'
  rw [List.length_map, List.map_take, List.map_drop]
theorem flat_le : ∀ {l : List (List UInt8)}, (∀ p ∈ l, p.length ≤ 1) → l.flatten.length ≤ l.length
  | [], _ => by simp
  | p :: r, h => by
    have := flat_le (l := r) fun q hq => h q (.tail _ hq)
    have := h p (.head _)
    rw [List.flatten_cons, List.length_append, List.length_cons]; omega
theorem cutL_sub {α : Type} {l : List α} {lo hi : Option Int} : (cutL l lo hi).length ≤ l.length ∧ ∀ x ∈ cutL l lo hi, x ∈ l := by
  unfold cutL cutL.kms_pick'
  exact ⟨by rw [List.length_take, List.length_drop]; exact zr4, fun x h => List.mem_of_mem_drop (List.mem_of_mem_take h)⟩
theorem ins_oth {c : UInt8} {r : List UInt8} (h40 : ¬ c.toNat = 40) (h41 : ¬ c.toNat = 41) {d : Nat} : (ins (c :: r) = none → cmt d (c :: r) = none) ∧
    ∀ bs r', ins (c :: r) = some (bs, r') → cmt d (c :: r) = cmt d r' ∧ r'.length < (c :: r).length ∧ bs.length ≤ 1 ∧ ∀ D, Dp D (c :: r) → Dp D r' := by
  rw [ins_c]
  by_cases h92 : c.toNat = 92
  · rw [if_pos h92]
    cases r with
    | nil => exact ⟨fun _ => by rw [cmt_cons, if_pos h92]; rfl, fun bs r' e => by cases e⟩
    | cons x l =>
      by_cases hx : x.toNat = 13 ∨ x.toNat = 10
      · simp only [lc_cons, hx, if_true]
        exact ⟨fun _ => by rw [cmt_cons, if_pos h92]; simp only [lc_cons, hx, if_true], fun bs r' e => by cases e⟩
      · simp only [lc_cons, hx, if_false]
        refine ⟨fun e => (by cases e), fun bs r' e => ?_⟩
        cases e
        refine ⟨by rw [cmt_cons, if_pos h92]; simp only [lc_cons, hx, if_false], by simp only [List.length_cons]; omega, by simp, fun D h => ?_⟩
        have := h.tail.tail
        rw [show w1 c.toNat = 1 from by rw [h92]; rfl] at this
        exact this.mono (by have := w1_ge x.toNat; omega)
  · rw [if_neg h92]
    have hw : w1 c.toNat = 0 := by unfold w1; rw [if_neg h40, if_neg h92, if_neg h41]
    by_cases h10 : c.toNat = 10
    · rw [if_pos h10]
      refine ⟨fun e => (by cases e), fun bs r' e => ?_⟩
      cases e
      refine ⟨?_, by simp, by simp, fun D h => ?_⟩
      · rw [cmt_cons, if_neg h92, if_neg (by omega), if_neg h40, if_neg h41]
      · have := h.tail; rw [hw] at this; exact this.mono (by omega)
    · rw [if_neg h10]
      by_cases h13 : c.toNat = 13
      · rw [if_pos h13]
        cases r with
        | nil => exact ⟨fun _ => by rw [cmt_cons, if_neg h92, if_pos ⟨h13, by simp⟩], fun bs r' e => by cases e⟩
        | cons x l =>
          by_cases hx : x.toNat = 10
          · simp only [lc_cons, hx, if_true]
            refine ⟨fun e => (by cases e), fun bs r' e => ?_⟩
            cases e
            refine ⟨?_, by simp only [List.length_cons]; omega, by simp, fun D h => ?_⟩
            · rw [cmt_cons, if_neg h92, if_neg (by simp [hx]), if_neg h40, if_neg h41]
              rw [cmt_cons, if_neg (by omega), if_neg (by omega), if_neg (by omega), if_neg (by omega)]
            · have := h.tail.tail
              rw [hw, show w1 x.toNat = 0 from by rw [hx]; rfl] at this
              exact this.mono (by omega)
          · simp only [lc_cons, hx, if_false]
            exact ⟨fun _ => by rw [cmt_cons, if_neg h92, if_pos ⟨h13, by simp [hx]⟩], fun bs r' e => by cases e⟩
      · rw [if_neg h13]
        refine ⟨fun e => (by cases e), fun bs r' e => ?_⟩
        cases e
        refine ⟨?_, by simp, by simp, fun D h => ?_⟩
        · rw [cmt_cons, if_neg h92, if_neg (by omega), if_neg h40, if_neg h41]
        · have := h.tail; rw [hw] at this; exact this.mono (by omega)
section
variable {k : Nat} {hd : Bool} {hp : Hp} {Q : AV → Hp → Prop} {X : Nat → Hp → Prop}
set_option backward.eqns.nonrecursive false in
noncomputable def cmtR (o : List UInt8) (hp : Hp) (Q : AV → Hp → Prop) (X : Nat → Hp → Prop) : Option (List UInt8) → Prop
  | none => ∀ g, X 59 (hp ++ g)
  | some r => ∀ b bs g, o.drop b = r → b ≤ o.length → Q (.tup [.bytes bs, .int (b : Int)]) (hp ++ g)
theorem c_269 {o : List UInt8} {a : Nat} (ha : a + 1 ≤ o.length) (hz : NZ o) (ho : o.length ≤ 1000) (hD : Dp 1 (o.drop (a + 1))) (h : cmtR o hp Q X (cmt 1 (o.drop (a + 1)))) :
    iterF tab (k + 3) false 269 [.bytes o, .int (a : Int)] hp Q X := by
  rw [at_269, b_comment_at]
  (repeat (simp_all_arith; simp_arith [nat_succ]))
  (first | rw [wpS_whl] | (simp_all_arith; rw [wpS_whl]))
  intro P hP
  suffices inner : ∀ (m b d : Nat) (ps : List (List UInt8)) v5 v6, o.length - b = m → b ≤ o.length → 1 ≤ d → Dp (d : Int) (o.drop b) → ps.length + (o.length - b) ≤ 1000 → (∀ p ∈ ps, p.length ≤ 1) → cmtR o hp Q X (cmt d (o.drop b)) →
      P ⟨[some (.bytes o), some (.int (a : Int)), some (.obj hp.length), some (.int (d : Int)), some (.int (b : Int)), v5, v6], hp ++ [.list (ps.map .bytes)]⟩ from
    inner _ (a + 1) 1 [] none none rfl ha (Nat.le_refl _) hD (by simp; omega) (by simp) h
  intro m
  induction m using Nat.strongRecOn with
  | _ m ih =>
  intro b d ps v5 v6 hm hb hd hD hl hp1 h
  have fin : ∀ (b : Nat) (bs : List UInt8) (ps : List (List UInt8)) v5 v6, (∀ p ∈ ps, p.length ≤ 1) → ps.length ≤ 1000 → (∀ bs g, Q (.tup [.bytes bs, .int (b : Int)]) (hp ++ g)) →
      P ⟨[some (.bytes o), some (.int (a : Int)), some (.obj hp.length), some (.int ((0 : Nat) : Int)), some (.int (b : Int)), v5, v6], hp ++ [.list (ps.map .bytes)]⟩ := fun b bs ps v5 v6 h1 h2 h3 => by
    refine hP _ ?_
    simp_arith [show ¬ ((0 : Int) < ((0 : Nat) : Int)) from by decide]
    (repeat (simp_all_arith; simp_arith [getC, cutL_map, bytesOf_map (fun x : List UInt8 => x), List.map_id']))
    have hs := cutL_sub (l := ps) (lo := none) (hi := some (-1))
    have := flat_le fun p hp => h1 p (hs.2 p hp)
    refine ⟨by have := hs.1; omega, ?_⟩
    rw [List.append_assoc]
    exact h3 _ _
  have nxt : ∀ (b' d' : Nat) (bs : List UInt8) v5 v6, b < b' → b' ≤ o.length → 1 ≤ d' → Dp (d' : Int) (o.drop b') → bs.length ≤ 1 → cmtR o hp Q X (cmt d' (o.drop b')) →
      ps.length < 100000 ∧ P ⟨[some (.bytes o), some (.int (a : Int)), some (.obj hp.length), some (.int (d' : Int)), some (.int (b' : Int)), v5, v6], hp ++ [.list (ps.map .bytes ++ [.bytes bs])]⟩ := fun b' d' bs v5 v6 h1 h2 h3 h4 h5 h6 => by
    have := ih (o.length - b') (by omega) b' d' (ps ++ [bs]) v5 v6 rfl h2 h3 h4 (by rw [List.length_append, List.length_singleton]; omega)
      (fun p hp => by rcases List.mem_append.mp hp with q | q; exact hp1 p q; rw [List.mem_singleton.mp q]; exact h5) h6
    rw [List.map_append] at this
    exact ⟨by omega, this⟩
  refine hP _ ?_
  have d1 : (0 : Int) < d := by omega
  simp_arith [d1]
  cases e : o.drop b with
  | nil =>
    rw [e] at h
    (repeat (simp_all_arith; simp_arith [nat_succ, cut_nat, e, List.take_nil, beq_nil1]))
    refine c_255 hb hz ?_
    rw [e]
    exact h _
  | cons c r =>
    obtain ⟨e1, e2, e3⟩ := dropc e
    rw [e] at h hD
    have fz := hD.tail
    by_cases q40 : c.toNat = 40
    · have d2 : ¬ (20 : Int) < ((d + 1 : Nat) : Int) := by have := fz.zero; rw [q40] at this; simp only [w1, if_true] at this; omega
      (repeat (simp_all_arith; simp_arith [nat_succ, cut_nat, e, Nat.add_sub_cancel_left, List.take_succ_cons, List.take_zero, beq_one, UInt8.reduceToNat, q40, d2]))
      refine c_255 hb hz ?_
      rw [e, ins_c, if_neg (by omega), if_neg (by omega), if_neg (by omega)]
      intro a' ea ha'
      have ea' := drop_pos ha' ea
      have eb' := drop_pos (by omega) e3
      obtain rfl : a' = b + 1 := by omega
      (repeat (simp_all_arith; simp_arith [getC, setC, List.length_map]))
      refine nxt (b + 1) (d + 1) [c] _ _ (by omega) ha' (by omega) ?_ (by simp) ?_
      · rw [e3]; rw [q40] at fz; exact fz
      · rw [e3]; rw [cmt_cons, if_neg (by omega), if_neg (by omega), if_pos q40] at h; exact h
    · by_cases q41 : c.toNat = 41
      · have hd1 : (d : Int) - 1 = ((d - 1 : Nat) : Int) := by omega
        (repeat (simp_all_arith; simp_arith [nat_succ, cut_nat, e, Nat.add_sub_cancel_left, List.take_succ_cons, List.take_zero, beq_one, UInt8.reduceToNat, q41, hd1]))
        refine c_255 hb hz ?_
        rw [e, ins_c, if_neg (by omega), if_neg (by omega), if_neg (by omega)]
        intro a' ea ha'
        have ea' := drop_pos ha' ea
        have eb' := drop_pos (by omega) e3
        obtain rfl : a' = b + 1 := by omega
        rw [cmt_cons, if_neg (by omega), if_neg (by omega), if_neg q40, if_pos q41] at h
        (repeat (simp_all_arith; simp_arith [getC, setC, List.length_map]))
        by_cases qd : d = 1
        · subst qd
          rw [if_pos rfl] at h
          have := fin (b + 1) [] (ps ++ [[c]]) (some (.bytes [c])) (some (.bytes [c])) (fun p hp => by rcases List.mem_append.mp hp with q | q; exact hp1 p q; rw [List.mem_singleton.mp q]; simp)
            (by rw [List.length_append, List.length_singleton]; omega) fun bs g => h _ bs g e3 ha'
          rw [List.map_append] at this
          exact ⟨by omega, this⟩
        · rw [if_neg qd] at h
          refine nxt (b + 1) (d - 1) [c] _ _ (by omega) ha' (by omega) ?_ (by simp) ?_
          · rw [e3]; rw [q41] at fz; exact fz.mono (by rw [show w1 41 = -1 from rfl]; omega)
          · rw [e3]; exact h
      · have oth := ins_oth (r := r) q40 q41 (d := d)
        (repeat (simp_all_arith; simp_arith [nat_succ, cut_nat, e, Nat.add_sub_cancel_left, List.take_succ_cons, List.take_zero, beq_one, UInt8.reduceToNat, q40, q41]))
        refine c_255 hb hz ?_
        rw [e]
        cases ei : ins (c :: r) with
        | none =>
          rw [oth.1 ei] at h
          exact h _
        | some p =>
          obtain ⟨bs, r'⟩ := p
          obtain ⟨o1, o2, o3, o4⟩ := oth.2 _ _ ei
          intro a' ea ha'
          have ea' := drop_pos ha' ea
          have eb' := congrArg List.length e
          have ec' := congrArg List.length ea
          rw [List.length_drop] at eb' ec'
          simp_arith []
          (repeat (simp_all_arith; simp_arith [getC, setC, List.length_map]))
          refine nxt a' d bs _ _ (by exact zr2 (by assumption) eb' ec') ha' hd ?_ o3 ?_
          · rw [ea]; exact o4 _ hD
          · rw [ea, ← o1]; exact h
end
end Mine
end

noncomputable section
open PySem PySem.W PyProof.Rows PySem.Calls PySem.Spec
set_option maxRecDepth 100000
namespace Mine
noncomputable def Hc (hp : Hp) (j : Nat) (o : List UInt8) (b : Nat) (g : Hp) : Hp := hp.set j (cur o b) ++ g
section
variable {hp : Hp} {j a b : Nat} {o : List UInt8} {g g' : Hp}
theorem Hc_get (hj : j < hp.length) : (Hc hp j o b g)[j]? = some (cur o b) := by
  unfold Hc
  rw [List.getElem?_append_left (by rw [List.length_set]; exact hj), List.getElem?_set_self hj]
theorem Hc_set (hj : j < hp.length) : (Hc hp j o a g).set j (cur o b) = Hc hp j o b g := by
  unfold Hc
  rw [List.set_append_left _ _ (by rw [List.length_set]; exact hj), List.set_set]
theorem Hc_app : Hc hp j o b g ++ g' = Hc hp j o b (g ++ g') := by unfold Hc; rw [List.append_assoc]
set_option tactic.hygienic true in
theorem Hc_self (h : hp[j]? = some (cur o a)) : hp = Hc hp j o a [] := by
  unfold Hc
  rw [List.append_nil]
  apply List.ext_getElem?
  intro i
  rw [List.getElem?_set]
  split
  · rename_i e; subst e
    rw [if_pos (List.getElem?_eq_some_iff.mp h).1, h]
  · rfl
end
theorem in_wh (n : Nat) : inTup (.int (n : Int)) [.int 9, .int 10, .int 13, .int 32] = some (isWh n) := by
  show some ((((9 : Nat) : Int) == n) || ((((10 : Nat) : Int) == n) || ((((13 : Nat) : Int) == n) || ((((32 : Nat) : Int) == n) || false)))) = _
  rw [iIn, iIn, iIn, iIn]
  exact congrArg some ((by decide : ∀ a b c d : Bool, (a || (b || (c || (d || false)))) = (a || b || c || d)) (decide (n = 9)) (decide (n = 10)) (decide (n = 13)) (decide (n = 32)))
noncomputable def GD (o : List UInt8) : Prop := ∀ a, Dp 1 (o.drop a)
structure Go (o : List UInt8) : Prop where
  z : NZ o
  n : o.length ≤ 1000
  d : GD o
section
variable {k : Nat} {hd : Bool} {hp : Hp} {Q : AV → Hp → Prop} {X : Nat → Hp → Prop}
set_option backward.eqns.nonrecursive false in
noncomputable def skpR (o : List UInt8) (j : Nat) (hp : Hp) (Q : AV → Hp → Prop) (X : Nat → Hp → Prop) : Option (List UInt8) → Prop
  | none => ∀ b g, X 59 (Hc hp j o b g)
  | some r => ∀ b g, o.drop b = r → b ≤ o.length → Q .none (Hc hp j o b g)
theorem c_338 {o : List UInt8} {a j : Nat} (hj : j < hp.length) {g : Hp} (ha : a ≤ o.length) (G : Go o) (h : skpR o j hp Q X (skp (o.drop a))) :
    iterF tab (k + 4) false 338 [.obj j] (Hc hp j o a g) Q X := by
  rw [at_338, b_skip_between]
  (first | rw [wpS_whl] | (simp_all_arith; rw [wpS_whl]))
  intro P hP
  suffices key : ∀ n a g, o.length - a = n → a ≤ o.length → skpR o j hp Q X (skp (o.drop a)) → P ⟨[some (.obj j)], Hc hp j o a g⟩ from key _ a g rfl ha h
  intro n
  induction n using Nat.strongRecOn with
  | _ n ih =>
  intro a g hn ha h
  refine hP _ ?_
  have hg := Hc_get (o := o) (b := a) (g := g) hj
  cases e : o.drop a with
  | nil =>
    have ea : o.length ≤ a := by have := dropn ha e; omega
    rw [e, skp_nil] at h
    simp_arith [↓cur_10 hg, ↓c_95 hg, ea, Bool.not_true]
    exact h _ _ e ha
  | cons c r =>
    obtain ⟨e1, e2, e3⟩ := dropc e
    rw [e, skp_cons] at h
    have l1 : ¬ o.length ≤ a := by omega
    simp_arith [↓cur_10 hg, ↓c_95 hg, l1, Bool.not_false]
    cases hw : isWh c.toNat with
    | true =>
      rw [hw, if_pos rfl] at h
      (repeat (simp_all_arith; simp_arith [↓cur_11 hg, ↓c_103 hg, pk, e1, in_wh, hw, ↓cur_12 hg, ↓c_110 hg, Hc_set hj]))
      exact ih _ (by omega) (a + 1) g rfl (by omega) (by rw [e3]; exact h)
    | false =>
      rw [hw, if_neg (by simp)] at h
      by_cases h40 : c.toNat = 40
      · rw [if_pos h40] at h
        (repeat (simp_all_arith; simp_arith [↓cur_11 hg, ↓c_103 hg, pk, e1, in_wh, show isWh 40 = false from rfl, ieq, h40, ↓cur_0 hg, ↓cur_1 hg]))
        refine c_269 (by omega) G.z G.n (G.d _) ?_
        rw [e3]
        cases ec : cmt 1 r with
        | none =>
          rw [ec] at h
          intro g'
          rw [Hc_app]
          exact h _ _
        | some r' =>
          rw [ec] at h
          intro b bs g' eb hb
          have hg' := Hc_get (o := o) (b := a) (g := g ++ g') hj
          simp_arith [Int.toNat_one, Int.zero_le_ofNat, Hc_app, ↓cur_s hg', Hc_set hj, show ∀ x y : AV, [x, y][Int.toNat 1]? = some y from fun _ _ => rfl]
          have := cmt_len _ _ _ _ (Nat.le_refl _) ec
          have l2 : r'.length = o.length - b := by rw [← eb, List.length_drop]
          have l3 : r.length = o.length - (a + 1) := by rw [← e3, List.length_drop]
          exact ih (o.length - b) (by exact zr1 (by assumption) (by assumption) (by assumption) (by assumption)) b _ rfl hb (by rw [eb]; exact h)
      · rw [if_neg h40] at h
        (repeat (simp_all_arith; simp_arith [↓cur_11 hg, ↓c_103 hg, pk, e1, in_wh, hw, ieq, h40]))
        exact h _ _ e ha
end
end Mine
end

noncomputable section
open PySem PySem.W PyProof.Rows PySem.Calls PySem.Spec
set_option maxRecDepth 100000
namespace Mine
noncomputable def Fr (H H' : Hp) (j : Nat) : Prop := ∀ (i : Nat) (x : AO), i ≠ j → H[i]? = some x → H'[i]? = some x
theorem Fr.refl {H : Hp} {j : Nat} : Fr H H j := fun _ _ _ h => h
theorem Fr.trans {H H' H'' : Hp} {j : Nat} (a : Fr H H' j) (b : Fr H' H'' j) : Fr H H'' j := fun i x n h => b i x n (a i x n h)
theorem Fr.app {H g : Hp} {j : Nat} : Fr H (H ++ g) j := fun _ _ _ h => getL h
theorem Fr.set {H : Hp} {j : Nat} {y : AO} : Fr H (H.set j y) j := fun i x n h => by rw [List.getElem?_set_ne (Ne.symm n)]; exact h
theorem Fr.hc {H : Hp} {j b : Nat} {o : List UInt8} {g : Hp} : Fr H (Hc H j o b g) j := Fr.set.trans Fr.app
noncomputable def Kp (H H' : Hp) : Prop := ∀ (i : Nat) (x : AO), H[i]? = some x → H'[i]? = some x
theorem Kp.refl {H : Hp} : Kp H H := fun _ _ h => h
theorem Kp.trans {H H' H'' : Hp} (a : Kp H H') (b : Kp H' H'') : Kp H H'' := fun i x h => b i x (a i x h)
theorem Kp.app {H g : Hp} : Kp H (H ++ g) := fun _ _ h => getL h
theorem Kp.fr {H H' : Hp} {j : Nat} (a : Kp H H') : Fr H H' j := fun i x _ h => a i x h
theorem Fr.kp {H H' : Hp} {j : Nat} (a : Fr H H' j) (h : H[j]? = none) : Kp H H' := fun i x e => a i x (fun q => by rw [q, h] at e; cases e) e
theorem Fr.kpn {H H' : Hp} {y : AO} (a : Fr (H ++ [y]) H' H.length) : Kp H H' := fun i x e => a i x (fun q => by
  have := (List.getElem?_eq_some_iff.mp e).1; omega) (getL e)

set_option backward.eqns.nonrecursive false in
noncomputable def qtd : List UInt8 → List UInt8 → Option (List UInt8 × List UInt8)
  | [], _ => none
  | c :: r, acc =>
    if c.toNat = 34 then some (acc, r)
    else if c.toNat = 92 then (match r with
      | [] => none
      | x :: r' => if x.toNat = 13 ∨ x.toNat = 10 then none else qtd r' (acc ++ [x]))
    else if c.toNat = 10 then qtd r acc
    else if c.toNat = 13 then (match r with
      | [] => none
      | x :: r' => if x.toNat = 10 then qtd r' acc else none)
    else qtd r (acc ++ [c])
theorem qtd_cons {c : UInt8} {r acc : List UInt8} : qtd (c :: r) acc = if c.toNat = 34 then some (acc, r)
    else if c.toNat = 92 then lc r fun x r' => if x.toNat = 13 ∨ x.toNat = 10 then none else qtd r' (acc ++ [x])
    else if c.toNat = 10 then qtd r acc
    else if c.toNat = 13 then lc r fun x r' => if x.toNat = 10 then qtd r' acc else none
    else qtd r (acc ++ [c]) := by
  cases r <;> rfl
theorem qtd_ins {c : UInt8} {r acc : List UInt8} (h : ¬ c.toNat = 34) : (ins (c :: r) = none → qtd (c :: r) acc = none) ∧
    ∀ bs r', ins (c :: r) = some (bs, r') → qtd (c :: r) acc = qtd r' (acc ++ bs) ∧ r'.length < (c :: r).length ∧ bs.length ≤ 1 := by
  rw [qtd_cons, if_neg h, ins_c]
  by_cases h92 : c.toNat = 92
  · rw [if_pos h92, if_pos h92]
    cases r with
    | nil => exact ⟨fun _ => rfl, fun bs r' e => by cases e⟩
    | cons x l =>
      by_cases hx : x.toNat = 13 ∨ x.toNat = 10
      · simp only [lc_cons, hx, if_true]
        exact ⟨fun _ => trivial, fun bs r' e => by cases e⟩
      · simp only [lc_cons, hx, if_false]
        refine ⟨fun e => (by cases e), fun bs r' e => ?_⟩
        cases e
        exact ⟨rfl, by simp only [List.length_cons]; omega, by simp⟩
  · rw [if_neg h92, if_neg h92]
    by_cases h10 : c.toNat = 10
    · rw [if_pos h10, if_pos h10]
      refine ⟨fun e => (by cases e), fun bs r' e => ?_⟩
      cases e
      exact ⟨by rw [List.append_nil], by simp, by simp⟩
    · rw [if_neg h10, if_neg h10]
      by_cases h13 : c.toNat = 13
      · rw [if_pos h13, if_pos h13]
        cases r with
        | nil => exact ⟨fun _ => rfl, fun bs r' e => by cases e⟩
        | cons x l =>
          by_cases hx : x.toNat = 10
          · simp only [lc_cons, hx, if_true]
            refine ⟨fun e => (by cases e), fun bs r' e => ?_⟩
            cases e
            exact ⟨by rw [List.append_nil], by simp only [List.length_cons]; omega, by simp⟩
          · simp only [lc_cons, hx, if_false]
            exact ⟨fun _ => trivial, fun bs r' e => by cases e⟩
      · rw [if_neg h13, if_neg h13]
        refine ⟨fun e => (by cases e), fun bs r' e => ?_⟩
        cases e
        exact ⟨rfl, by simp, by simp⟩
theorem qtd_len : ∀ (n : Nat) (l acc w r : List UInt8), l.length ≤ n → qtd l acc = some (w, r) → r.length < l.length
  | _, [], _, _, _, _, h => non h
  | 0, c :: l, _, _, _, hn, _ => by simp at hn
  | n + 1, c :: l, acc, w, r, hn, h => by
    by_cases h34 : c.toNat = 34
    · rw [qtd_cons, if_pos h34] at h; cases h; simp
    · have q := qtd_ins (r := l) (acc := acc) h34
      cases ei : ins (c :: l) with
      | none => rw [q.1 ei] at h; cases h
      | some p =>
        obtain ⟨bs, r'⟩ := p
        obtain ⟨q1, q2, _⟩ := q.2 _ _ ei
        rw [q1] at h
        have := qtd_len n r' _ w r (by simp only [List.length_cons] at hn q2; omega) h
        omega
noncomputable def pT (c : UInt8) : Bool := tokI c.toNat
noncomputable def pW (c : UInt8) : Bool := decide ((127 : Int) < c.toNat) || tokI c.toNat
theorem tw_take {p : UInt8 → Bool} {l : List UInt8} : l.takeWhile p = l.take (l.length - (l.dropWhile p).length) := by
  have h := List.takeWhile_append_dropWhile (p := p) (l := l)
  have h2 : l.length = (l.takeWhile p).length + (l.dropWhile p).length := by rw [← List.length_append, h]
  have h3 : l.length - (l.dropWhile p).length = (l.takeWhile p).length := by omega
  rw [h3]
  conv => rhs; arg 2; rw [← h]
  rw [List.take_left]
theorem dw_len {p : UInt8 → Bool} {l : List UInt8} : (l.dropWhile p).length ≤ l.length := by
  have h := List.takeWhile_append_dropWhile (p := p) (l := l)
  have h2 : l.length = (l.takeWhile p).length + (l.dropWhile p).length := by rw [← List.length_append, h]
  omega
set_option backward.eqns.nonrecursive false in
noncomputable def wor (l : List UInt8) : Option (List UInt8 × List UInt8) := match l with
  | [] => none
  | c :: r => if c.toNat = 34 then qtd r [] else if (c :: r).takeWhile pW = [] then none else some ((c :: r).takeWhile pW, (c :: r).dropWhile pW)
theorem wor_c {c : UInt8} {r : List UInt8} : wor (c :: r) = if c.toNat = 34 then qtd r [] else if (c :: r).takeWhile pW = [] then none else some ((c :: r).takeWhile pW, (c :: r).dropWhile pW) := rfl
theorem wor_len {l w r : List UInt8} (h : wor l = some (w, r)) : r.length ≤ l.length := by
  cases l with
  | nil => exact non h
  | cons c l =>
    rw [wor_c] at h
    split at h
    · have := qtd_len _ _ _ _ _ (Nat.le_refl _) h
      simp only [List.length_cons]; omega
    · split at h
      · cases h
      · cases h; exact dw_len
theorem skp_len : ∀ (n : Nat) (l r : List UInt8), l.length ≤ n → skp l = some r → r.length ≤ l.length
  | _, [], r, _, h => by rw [skp_nil] at h; cases h; simp
  | 0, c :: l, _, hn, _ => by simp at hn
  | n + 1, c :: l, r, hn, h => by
    have hn : l.length ≤ n := by simpa using hn
    rw [skp_cons] at h
    split at h
    · have := skp_len n l r hn h; simp only [List.length_cons]; omega
    · split at h
      · cases e : cmt 1 l with
        | none => rw [e] at h; cases h
        | some l' =>
          rw [e] at h
          have := cmt_len _ _ _ _ (Nat.le_refl _) e
          have := skp_len n l' r (by omega) h
          simp only [List.length_cons]; omega
      · cases h; simp
section
variable {k : Nat} {hd : Bool} {hp H : Hp} {Q : AV → Hp → Prop} {X : Nat → Hp → Prop} {o : List UInt8} {a j : Nat}
set_option backward.eqns.nonrecursive false in
noncomputable def skR (o : List UInt8) (j : Nat) (H : Hp) (Q : AV → Hp → Prop) (X : Nat → Hp → Prop) : Option (List UInt8) → Prop
  | none => ∀ H', Fr H H' j → X 59 H'
  | some r => ∀ b H', o.drop b = r → b ≤ o.length → Fr H H' j → H'[j]? = some (cur o b) → Q .none H'
theorem d_338 (h0 : H[j]? = some (cur o a)) (ha : a ≤ o.length) (G : Go o) (h : skR o j H Q X (skp (o.drop a))) : iterF tab (k + 4) false 338 [.obj j] H Q X := by
  rw [Hc_self h0]
  refine c_338 (List.getElem?_eq_some_iff.mp h0).1 ha G ?_
  cases e : skp (o.drop a) with
  | none => rw [e] at h; exact fun b g => h _ Fr.hc
  | some r => rw [e] at h; exact fun b g eb hb => h b _ eb hb Fr.hc (Hc_get (List.getElem?_eq_some_iff.mp h0).1)
set_option backward.eqns.nonrecursive false in
noncomputable def tkR (p : UInt8 → Bool) (o : List UInt8) (j a : Nat) (H : Hp) (Q : AV → Hp → Prop) (X : Nat → Hp → Prop) : Prop :=
  if (o.drop a).takeWhile p = [] then ∀ H', Fr H H' j → X 59 H' else ∀ b H', o.drop b = (o.drop a).dropWhile p → b ≤ o.length → Fr H H' j → H'[j]? = some (cur o b) → Q (.bytes ((o.drop a).takeWhile p)) H'
theorem tk_end {p : UInt8 → Bool} {b : Nat} (ha : a ≤ b) (hb : b ≤ o.length) (e : o.drop b = (o.drop a).dropWhile p) : (o.drop a).takeWhile p = (o.drop a).take (b - a) := by
  rw [tw_take, ← e, List.length_drop, List.length_drop, Nat.sub_right_comm, Nat.sub_sub_self hb]
theorem tk_ne {b : Nat} (hab : a ≤ b) (hb : b ≤ o.length) (hq : ¬ b = a) : (o.drop a).take (b - a) ≠ [] := fun q => by
  have := congrArg List.length q
  rw [List.length_take, List.length_drop, List.length_nil, Nat.min_eq_left (Nat.sub_le_sub_right hb a)] at this
  exact hq (Nat.le_antisymm (Nat.le_of_sub_eq_zero this) hab)
theorem pk_tok {b : Nat} : ∃ z, pk o b = .int z ∧ tokI z = (o[b]?).any pT := by
  unfold pk
  cases o[b]? with
  | none => exact ⟨-1, rfl, rfl⟩
  | some c => exact ⟨c.toNat, rfl, rfl⟩
theorem pk_wor {b : Nat} : ∃ z, pk o b = .int z ∧ (decide (127 < z) || tokI z) = (o[b]?).any pW := by
  unfold pk
  cases o[b]? with
  | none => exact ⟨-1, rfl, rfl⟩
  | some c => exact ⟨c.toNat, rfl, rfl⟩
theorem ieqn (n m : Nat) : ((n : Int) == (m : Int)) = decide (n = m) := by
  rw [Bool.eq_iff_iff, beq_iff_eq, decide_eq_true_iff]; omega
set_option backward.eqns.nonrecursive false in
noncomputable def tokE : Ss := match b_take_token with | .cons _ (.cons _ r) => r | _ => .nil
theorem d_345e {b : Nat} {H' : Hp} (ha : a ≤ o.length) (hab : a ≤ b) (hb : b ≤ o.length) (hf : Fr H H' j) (hg : H'[j]? = some (cur o b)) (eb : o.drop b = (o.drop a).dropWhile pT) (h : tkR pT o j a H Q X) :
    wpSs (iterF tab (k + 2)) false tokE ⟨[some (.obj j), some (.int (a : Int))], H'⟩ (fun st => Q .none st.hp) (fun v st => Q v st.hp) (fun _ => False) (fun c st => X c st.hp) := by
  have et := tk_end hab hb eb
  unfold tkR at h
  show wpSs _ _ (.cons _ (.cons _ .nil)) _ _ _ _ _
  by_cases hq : b = a
  · rw [et, hq, Nat.sub_self, if_pos (by simp)] at h
    (repeat (simp_all_arith; simp_arith [↓cur_1 hg, ↓cur_0 hg, ieqn, hq, List.length_cons, List.length_nil]))
    exact h _ hf
  · have ne : (o.drop a).takeWhile pT ≠ [] := by
      rw [et]; exact tk_ne hab hb hq
    rw [if_neg ne] at h
    (repeat (simp_all_arith; simp_arith [↓cur_1 hg, ↓cur_0 hg, ieqn, hq, cut_nat]))
    rw [← et]
    exact h b _ eb hb hf hg
theorem d_345 (h0 : H[j]? = some (cur o a)) (ha : a ≤ o.length) (h : tkR pT o j a H Q X) : iterF tab (k + 3) false 345 [.obj j] H Q X := by
  rw [at_345, b_take_token]
  (repeat (simp_all_arith; simp_arith [↓cur_1 h0]))
  (first | rw [wpS_whl] | (simp_all_arith; rw [wpS_whl]))
  intro P hP
  suffices key : ∀ n b H', o.length - b = n → a ≤ b → b ≤ o.length → (o.drop b).dropWhile pT = (o.drop a).dropWhile pT → Fr H H' j → H'[j]? = some (cur o b) → P ⟨[some (.obj j), some (.int (a : Int))], H'⟩ from
    key _ a H rfl (Nat.le_refl _) ha rfl Fr.refl h0
  intro n
  induction n using Nat.strongRecOn with
  | _ n ih =>
  intro b H' hn hab hb hw hf hg
  obtain ⟨z, ez, et⟩ := pk_tok (o := o) (b := b)
  refine hP _ ?_
  simp_arith [↓cur_11 hg, ↓c_103 hg, ez, ↓c_331, et]
  cases e : o.drop b with
  | cons c r =>
    obtain ⟨e1, e2, e3⟩ := dropc e
    cases ep : pT c with
    | true =>
      simp only [e1, Option.any_some, ep, ifB_tt]
      (repeat (simp_all_arith; simp_arith [↓cur_12 hg, ↓c_110 hg, e1]))
      refine ih _ (by omega) (b + 1) _ rfl (by omega) e2 ?_ (hf.trans Fr.set) (List.getElem?_set_self (List.getElem?_eq_some_iff.mp hg).1)
      rw [← hw, e, e3, List.dropWhile_cons, if_pos ep]
    | false =>
      simp only [e1, Option.any_some, ep, ifB_ff]
      have eb : o.drop b = (o.drop a).dropWhile pT := by rw [← hw, e, List.dropWhile_cons, if_neg (by simp [ep])]
      exact d_345e ha hab hb hf hg eb h
  | nil =>
    have e1 : o[b]? = none := by have := dropn hb e; exact List.getElem?_eq_none (by omega)
    simp only [e1, Option.any_none, ifB_ff]
    have eb : o.drop b = (o.drop a).dropWhile pT := by rw [← hw, e]; rfl
    exact d_345e ha hab hb hf hg eb h
end
end Mine
end

noncomputable section
open PySem PySem.W PyProof.Rows PySem.Calls PySem.Spec
set_option maxRecDepth 100000
namespace Mine
section
variable {k : Nat} {hd : Bool} {hp H : Hp} {Q : AV → Hp → Prop} {X : Nat → Hp → Prop} {o : List UInt8} {a j : Nat}
set_option backward.eqns.nonrecursive false in
noncomputable def qtR (o : List UInt8) (hp : Hp) (Q : AV → Hp → Prop) (X : Nat → Hp → Prop) : Option (List UInt8 × List UInt8) → Prop
  | none => ∀ g, X 59 (hp ++ g)
  | some (w, r) => ∀ b g, o.drop b = r → b ≤ o.length → w.length ≤ 1000 → Q (.tup [.bytes w, .int (b : Int)]) (hp ++ g)
theorem c_262 (ha : a + 1 ≤ o.length) (G : Go o) (h : qtR o hp Q X (qtd (o.drop (a + 1)) [])) : iterF tab (k + 3) false 262 [.bytes o, .int (a : Int), .bytes [34], .bytes []] hp Q X := by
  rw [at_262, b_closed_at]
  (repeat (simp_all_arith; simp_arith [nat_succ]))
  (first | rw [wpS_whl] | (simp_all_arith; rw [wpS_whl]))
  intro P hP
  suffices inner : ∀ (m b : Nat) (ps : List (List UInt8)) v6, o.length - b = m → b ≤ o.length → ps.length + (o.length - b) ≤ 1000 → (∀ p ∈ ps, p.length ≤ 1) → qtR o hp Q X (qtd (o.drop b) ps.flatten) →
      P ⟨[some (.bytes o), some (.int (a : Int)), some (.bytes [34]), some (.bytes []), some (.obj hp.length), some (.int (b : Int)), v6], hp ++ [.list (ps.map .bytes)]⟩ from
    inner _ (a + 1) [] none rfl ha (by have := G.n; simp; omega) (by simp) h
  intro m
  induction m using Nat.strongRecOn with
  | _ m ih =>
  intro b ps v6 hm hb hl hp1 h
  have nxt : ∀ (b' : Nat) (bs : List UInt8) v6, b < b' → b' ≤ o.length → bs.length ≤ 1 → qtR o hp Q X (qtd (o.drop b') (ps.flatten ++ bs)) →
      ps.length < 100000 ∧ P ⟨[some (.bytes o), some (.int (a : Int)), some (.bytes [34]), some (.bytes []), some (.obj hp.length), some (.int (b' : Int)), v6], hp ++ [.list (ps.map .bytes ++ [.bytes bs])]⟩ := fun b' bs v6 h1 h2 h5 h6 => by
    have := ih (o.length - b') (by omega) b' (ps ++ [bs]) v6 rfl h2 (by rw [List.length_append, List.length_singleton]; omega)
      (fun p hp => by rcases List.mem_append.mp hp with q | q; exact hp1 p q; rw [List.mem_singleton.mp q]; exact h5) (by rw [List.flatten_append]; simpa using h6)
    rw [List.map_append] at this
    exact ⟨by omega, this⟩
  refine hP _ ?_
  cases e : o.drop b with
  | nil =>
    rw [e] at h
    have l1 : ¬ (b : Int) < o.length := by have := dropn hb e; omega
    simp_arith [nat_succ, cut_nat, e, List.take_nil, beq_nil1, Bool.not_false]
    (repeat (simp_all_arith; simp_arith [nat_succ, l1]))
    refine c_255 hb G.z ?_
    rw [e]
    exact h _
  | cons c r =>
    obtain ⟨e1, e2, e3⟩ := dropc e
    rw [e] at h
    have l1 : (b : Int) < o.length := by omega
    simp_arith [nat_succ, cut_nat, e, Nat.add_sub_cancel_left, List.take_succ_cons, List.take_zero, beq_one, UInt8.reduceToNat]
    by_cases q34 : c.toNat = 34
    · rw [qtd_cons, if_pos q34] at h
      simp only [q34, decide_true, Bool.not_true, ifB_ff]
      have hs := flat_le hp1
      (repeat (simp_all_arith; simp_arith [nat_succ, getC, bytesOf_map (fun x : List UInt8 => x), List.map_id']))
      exact ⟨by omega, h _ _ e3 (by omega) (by omega)⟩
    · have oth := qtd_ins (r := r) (acc := ps.flatten) q34
      simp only [q34, decide_false, Bool.not_false, ifB_tt]
      (repeat (simp_all_arith; simp_arith [nat_succ, l1, e1, Int.natCast_nonneg, Int.toNat_natCast, byte_rng, show ∀ i, byteIn i [] = false from fun _ => rfl]))
      refine c_255 hb G.z ?_
      rw [e]
      cases ei : ins (c :: r) with
      | none =>
        rw [oth.1 ei] at h
        exact h _
      | some p =>
        obtain ⟨bs, r'⟩ := p
        obtain ⟨o1, o2, o3⟩ := oth.2 _ _ ei
        intro a' ea ha'
        have eb' := congrArg List.length e
        have ec' := congrArg List.length ea
        rw [List.length_drop] at eb' ec'
        simp_arith []
        (repeat (simp_all_arith; simp_arith [getC, setC, List.length_map]))
        refine nxt a' bs _ (by exact zr2 (by assumption) eb' ec') ha' o3 ?_
        rw [ea, ← o1]; exact h
set_option backward.eqns.nonrecursive false in
noncomputable def woR (o : List UInt8) (j : Nat) (H : Hp) (Q : AV → Hp → Prop) (X : Nat → Hp → Prop) : Option (List UInt8 × List UInt8) → Prop
  | none => ∀ H', Fr H H' j → X 59 H'
  | some (w, r) => ∀ b H', o.drop b = r → b ≤ o.length → w.length ≤ 1000 → Fr H H' j → H'[j]? = some (cur o b) → Q (.bytes w) H'
set_option backward.eqns.nonrecursive false in
noncomputable def worE : Ss := match b_take_worth with | .cons _ (.cons _ (.cons _ r)) => r | _ => .nil
theorem d_359e {b : Nat} {H' : Hp} {v1 : Option AV} (ho : o.length ≤ 1000) (ha : a ≤ o.length) (hab : a ≤ b) (hb : b ≤ o.length) (hf : Fr H H' j) (hg : H'[j]? = some (cur o b)) (eb : o.drop b = (o.drop a).dropWhile pW)
    (h : woR o j H Q X (if (o.drop a).takeWhile pW = [] then none else some ((o.drop a).takeWhile pW, (o.drop a).dropWhile pW))) :
    wpSs (iterF tab (k + 2)) false worE ⟨[some (.obj j), v1, some (.int (a : Int))], H'⟩ (fun st => Q .none st.hp) (fun v st => Q v st.hp) (fun _ => False) (fun c st => X c st.hp) := by
  have et := tk_end hab hb eb
  show wpSs _ _ (.cons _ (.cons _ .nil)) _ _ _ _ _
  by_cases hq : b = a
  · rw [et, hq, Nat.sub_self, if_pos (by simp)] at h
    (repeat (simp_all_arith; simp_arith [↓cur_1 hg, ↓cur_0 hg, ieqn, hq, List.length_cons, List.length_nil]))
    exact h _ hf
  · have ne : (o.drop a).takeWhile pW ≠ [] := by
      rw [et]; exact tk_ne hab hb hq
    rw [if_neg ne] at h
    (repeat (simp_all_arith; simp_arith [↓cur_1 hg, ↓cur_0 hg, ieqn, hq, cut_nat]))
    rw [← et]
    exact h b _ eb hb (by rw [et, List.length_take, List.length_drop]; omega) hf hg
theorem pk34 (h : ∀ c, o[a]? = some c → ¬ c.toNat = 34) : ∃ z : Int, pk o a = .int z ∧ (z == 34) = false := by
  unfold pk
  cases e : o[a]? with
  | none => exact ⟨-1, rfl, rfl⟩
  | some c => exact ⟨c.toNat, rfl, by rw [ieq]; simp [h c e]⟩
theorem d_359 (h0 : H[j]? = some (cur o a)) (ha : a ≤ o.length) (G : Go o) (h : woR o j H Q X (wor (o.drop a))) : iterF tab (k + 4) false 359 [.obj j] H Q X := by
  rw [at_359, b_take_worth]
  by_cases q : ∃ c r, o.drop a = c :: r ∧ c.toNat = 34
  · obtain ⟨c, r, e, q34⟩ := q
    obtain ⟨e1, e2, e3⟩ := dropc e
    rw [e, wor_c, if_pos q34] at h
    (repeat (simp_all_arith; simp_arith [↓cur_11 h0, ↓c_103 h0, pk, e1, ieq, q34, ↓cur_0 h0, ↓cur_1 h0]))
    refine c_262 (by omega) G ?_
    rw [e3]
    cases eq : qtd r [] with
    | none => rw [eq] at h; exact fun g => h _ Fr.app
    | some p =>
      obtain ⟨w, r'⟩ := p
      rw [eq] at h
      intro b g eb hb hw
      have hg := getL (g := g) h0
      simp_arith [↓cur_s hg]
      (repeat (simp_all_arith; simp_arith []))
      exact h b _ eb hb hw (Fr.app.trans Fr.set) (List.getElem?_set_self (List.getElem?_eq_some_iff.mp hg).1)
  · have q' : ∀ c, o[a]? = some c → ¬ c.toNat = 34 := fun c ec e34 => by
      have hl := (List.getElem?_eq_some_iff.mp ec).1
      refine q ⟨c, o.drop (a + 1), ?_, e34⟩
      rw [List.drop_eq_getElem_cons hl, (List.getElem?_eq_some_iff.mp ec).2]
    obtain ⟨z0, ez0, f34⟩ := pk34 q'
    have h : woR o j H Q X (if (o.drop a).takeWhile pW = [] then none else some ((o.drop a).takeWhile pW, (o.drop a).dropWhile pW)) := by
      cases e : o.drop a with
      | nil => rw [e] at h; exact h
      | cons c r =>
        rw [e] at h
        rw [wor_c, if_neg (q' c (dropc e).1)] at h
        exact h
    (repeat (simp_all_arith; simp_arith [↓cur_11 h0, ↓c_103 h0, ez0, f34, ↓cur_0 h0, ↓cur_1 h0]))
    (first | rw [wpS_whl] | (simp_all_arith; rw [wpS_whl]))
    intro P hP
    suffices key : ∀ n b H' v1, o.length - b = n → a ≤ b → b ≤ o.length → (o.drop b).dropWhile pW = (o.drop a).dropWhile pW → Fr H H' j → H'[j]? = some (cur o b) → P ⟨[some (.obj j), v1, some (.int (a : Int))], H'⟩ from
      key _ a H _ rfl (Nat.le_refl _) ha rfl Fr.refl h0
    intro n
    induction n using Nat.strongRecOn with
    | _ n ih =>
    intro b H' v1 hn hab hb hw hf hg
    obtain ⟨z, ez, et⟩ := pk_wor (o := o) (b := b)
    refine hP _ ?_
    simp_arith [↓cur_11 hg, ↓c_103 hg, ez, ↓c_352, et]
    cases e : o.drop b with
    | cons c r =>
      obtain ⟨e1, e2, e3⟩ := dropc e
      cases ep : pW c with
      | true =>
        simp only [e1, Option.any_some, ep, ifB_tt]
        (repeat (simp_all_arith; simp_arith [↓cur_12 hg, ↓c_110 hg, e1]))
        refine ih _ (by omega) (b + 1) _ _ rfl (by omega) e2 ?_ (hf.trans Fr.set) (List.getElem?_set_self (List.getElem?_eq_some_iff.mp hg).1)
        rw [← hw, e, e3, List.dropWhile_cons, if_pos ep]
      | false =>
        simp only [e1, Option.any_some, ep, ifB_ff]
        have eb : o.drop b = (o.drop a).dropWhile pW := by rw [← hw, e, List.dropWhile_cons, if_neg (by simp [ep])]
        exact d_359e G.n ha hab hb hf hg eb h
    | nil =>
      have e1 : o[b]? = none := by have := dropn hb e; exact List.getElem?_eq_none (by omega)
      simp only [e1, Option.any_none, ifB_ff]
      have eb : o.drop b = (o.drop a).dropWhile pW := by rw [← hw, e]; rfl
      exact d_359e G.n ha hab hb hf hg eb h
end
end Mine
end

noncomputable section
open PySem PySem.W PyProof.Rows PySem.Calls PySem.Spec
set_option maxRecDepth 100000
namespace Mine
noncomputable abbrev Prs := List (List UInt8 × List UInt8)
set_option backward.eqns.nonrecursive false in
noncomputable def prs1 (f : Prs → List UInt8 → Option Prs) (acc : Prs) (l : List UInt8) : Option Prs := match l with
  | [] => some acc
  | d :: l => if d.toNat = 59 then f acc (d :: l) else if (d :: l).takeWhile pT = [] then none else (skp ((d :: l).dropWhile pT)).bind fun l1 => lc l1 fun e l2 =>
      if e.toNat ≠ 61 then none else (skp l2).bind fun l3 => (wor l3).bind fun p => (skp p.2).bind fun l5 => f (acc ++ [((d :: l).takeWhile pT, p.1)]) l5
set_option backward.eqns.nonrecursive false in
noncomputable def prs : Nat → Prs → List UInt8 → Option Prs
  | 0, _, _ => none
  | n + 1, acc, l => match l with
    | [] => some acc
    | c :: r => if c.toNat ≠ 59 then none else (skp r).bind (prs1 (prs n) acc)
theorem prs_c {n : Nat} {acc : Prs} {c : UInt8} {r : List UInt8} : prs (n + 1) acc (c :: r) = if c.toNat ≠ 59 then none else (skp r).bind (prs1 (prs n) acc) := rfl
theorem prs1_c {f : Prs → List UInt8 → Option Prs} {acc : Prs} {d : UInt8} {l : List UInt8} : prs1 f acc (d :: l) = if d.toNat = 59 then f acc (d :: l) else if (d :: l).takeWhile pT = [] then none else (skp ((d :: l).dropWhile pT)).bind fun l1 => lc l1 fun e l2 =>
      if e.toNat ≠ 61 then none else (skp l2).bind fun l3 => (wor l3).bind fun p => (skp p.2).bind fun l5 => f (acc ++ [((d :: l).takeWhile pT, p.1)]) l5 := rfl
noncomputable def pairV (p : List UInt8 × List UInt8) : AV := .tup [.str (small_ p.1), .bytes p.2]
section
variable {k : Nat} {hd : Bool} {hp H : Hp} {Q : AV → Hp → Prop} {X : Nat → Hp → Prop} {o : List UInt8} {a j : Nat}
set_option backward.eqns.nonrecursive false in
noncomputable def prR (j : Nat) (H : Hp) (Q : AV → Hp → Prop) (X : Nat → Hp → Prop) : Option Prs → Prop
  | none => ∀ H', Fr H H' j → X 59 H'
  | some ps => ∀ H' i, ps.length ≤ 1000 → (∀ p ∈ ps, p.1.length ≤ 1000 ∧ p.2.length ≤ 1000) → Fr H H' j → H'[i]? = some (.list (ps.map pairV)) → Q (.obj i) H'
theorem neI {n m : Nat} : (!decide (n = m)) = decide (¬ n = m) := by rw [decide_not]
set_option tactic.hygienic true in
theorem d_371 (h0 : H[j]? = some (cur o a)) (ha : a ≤ o.length) (G : Go o) (h : prR j H Q X ((skp (o.drop a)).bind (prs 1001 []))) : iterF tab (k + 6) false 371 [.obj j] H Q X := by
  rw [at_371, b_take_pairs]
  (repeat (simp_all_arith; simp_arith []))
  refine d_338 (getL h0) ha G ?_
  have jl := (List.getElem?_eq_some_iff.mp h0).1
  cases es : skp (o.drop a) with
  | none => rw [es] at h; exact fun H' hf => h _ (Fr.app.trans hf)
  | some l =>
  intro a1 H1 ea1 ha1 hf1 hg1
  try simp_arith []
  (first | rw [wpS_whl] | (simp_all_arith; rw [wpS_whl]))
  intro P hP
  suffices key : ∀ n b H' (ps : Prs) v2, (o.drop b).length < n → b ≤ o.length → ps.length + (o.drop b).length ≤ 1000 → (∀ p ∈ ps, p.1.length ≤ 1000 ∧ p.2.length ≤ 1000) → Fr H H' j → H'[j]? = some (cur o b) → H'[H.length]? = some (.list (ps.map pairV)) →
      prR j H Q X (prs n ps (o.drop b)) → P ⟨[some (.obj j), some (.obj H.length), v2], H'⟩ from by
    rw [es] at h
    have := G.n
    have q : (o.drop a1).length ≤ o.length := by rw [List.length_drop]; omega
    exact key 1001 a1 H1 [] none (by omega) ha1 (by rw [List.length_nil]; omega) (by simp) (Fr.app.trans hf1) hg1 (hf1 _ _ (by omega) getC) (by rw [ea1]; exact h)
  clear h es ea1 ha1 hf1 hg1 h0
  intro n
  induction n with
  | zero => intro b H' ps v2 hb; omega
  | succ n ih =>
  intro b H' ps v2 hbn hb hlen hps hf hg hl h
  have hne : H.length ≠ j := by omega
  refine hP _ ?_
  cases e : o.drop b with
  | nil =>
    have ea : o.length ≤ b := by have := dropn hb e; omega
    rw [e] at h
    simp_arith [↓cur_10 hg, ↓c_95 hg, ea, Bool.not_true]
    (repeat (simp_all_arith; simp_arith []))
    exact h H' H.length (by rw [e] at hlen; simpa using hlen) hps hf hl
  | cons c r =>
    obtain ⟨e1, e2, e3⟩ := dropc e
    have l1 : ¬ o.length ≤ b := by omega
    have l1' : (o.drop (b + 1)).length + 1 = (o.drop b).length := by rw [List.length_drop, List.length_drop]; exact Nat.sub_add_cancel (Nat.sub_pos_of_lt e2)
    rw [e] at h
    simp_arith [↓cur_10 hg, ↓c_95 hg, l1, Bool.not_false]
    have hg2 : (H'.set j (cur o (b + 1)))[j]? = some (cur o (b + 1)) := List.getElem?_set_self (List.getElem?_eq_some_iff.mp hg).1
    by_cases q59 : c.toNat = 59
    · rw [prs_c, if_neg (fun q => q q59)] at h
      (repeat (simp_all_arith; simp_arith [↓cur_12 hg, ↓c_110 hg, e1, ieq, q59, Bool.not_true]))
      refine d_338 hg2 (by omega) G ?_
      rw [e3]
      cases es : skp r with
      | none => rw [es] at h; exact fun H2 f2 => h _ ((hf.trans Fr.set).trans f2)
      | some l =>
      rw [es, Option.bind_some] at h
      intro b2 H2 eb2 hb2 f2 g2
      have fs := skp_len _ _ _ (Nat.le_refl _) es
      have hf2 := (hf.trans Fr.set).trans f2
      have hl2 := (Fr.set.trans f2 : Fr H' H2 j) _ _ hne hl
      have l2' : (o.drop b2).length < (o.drop b).length := by rw [eb2, e]; simp only [List.length_cons]; omega
      cases l with
      | nil =>
        have ea : o.length ≤ b2 := by have := dropn hb2 eb2; omega
        try simp_arith []
        (repeat (simp_all_arith; simp_arith [↓cur_10 g2, ↓c_95 g2, ea, Bool.not_true]))
        refine ih b2 H2 ps v2 (by omega) hb2 (by omega) hps hf2 g2 hl2 ?_
        rw [eb2]
        cases n with
        | zero => omega
        | succ n => exact h
      | cons d l =>
        obtain ⟨e4, e5, e6⟩ := dropc eb2
        have ea : ¬ o.length ≤ b2 := by omega
        by_cases d59 : d.toNat = 59
        · rw [prs1_c, if_pos d59] at h
          try simp_arith []
          (repeat (simp_all_arith; simp_arith [↓cur_10 g2, ↓c_95 g2, ea, Bool.not_true, Bool.not_false, ↓cur_11 g2, ↓c_103 g2, pk, e4, ieq, d59]))
          exact ih b2 H2 ps v2 (by omega) hb2 (by omega) hps hf2 g2 hl2 (by rw [eb2]; exact h)
        · rw [prs1_c, if_neg d59] at h
          try simp_arith []
          (repeat (simp_all_arith; simp_arith [↓cur_10 g2, ↓c_95 g2, ea, Bool.not_true, Bool.not_false, ↓cur_11 g2, ↓c_103 g2, pk, e4, ieq, d59]))
          refine d_345 g2 hb2 ?_
          unfold tkR
          rw [eb2]
          by_cases tw : (d :: l).takeWhile pT = []
          · rw [if_pos tw] at h ⊢
            exact fun H3 f3 => h _ (hf2.trans f3)
          rw [if_neg tw] at h ⊢
          intro b3 H3 eb3 hb3 f3 g3
          have hf3 := hf2.trans f3
          have hl3 := f3 _ _ hne hl2
          have tl : ((d :: l).takeWhile pT).length ≤ 1000 := by
            have := List.takeWhile_sublist (l := d :: l) pT |>.length_le
            have := G.n
            have : (o.drop b2).length ≤ o.length := by rw [List.length_drop]; omega
            rw [eb2] at this; omega
          have l3' : (o.drop b3).length ≤ (o.drop b2).length := by rw [eb3, eb2]; exact dw_len
          try simp_arith []
          refine c_364 tl fun g => ?_
          have g4 := getL (g := g) g3
          have hf4 := hf3.trans (Fr.app (g := g))
          have hl4 := getL (g := g) hl3
          generalize H3 ++ g = H4 at g4 hf4 hl4 ⊢
          try simp_arith []
          (repeat (simp_all_arith; simp_arith []))
          refine d_338 g4 hb3 G ?_
          rw [eb3]
          cases es5 : skp ((d :: l).dropWhile pT) with
          | none => rw [es5] at h; exact fun H5 f5 => h _ (hf4.trans f5)
          | some l5 =>
          rw [es5, Option.bind_some] at h
          intro b5 H5 eb5 hb5 f5 g5
          have fs5 := skp_len _ _ _ (Nat.le_refl _) es5
          have hf5 := hf4.trans f5
          have hl5 := f5 _ _ hne hl4
          have l5' : (o.drop b5).length ≤ (o.drop b3).length := by rw [eb5, eb3]; exact fs5
          replace l5' := Nat.le_trans l5' l3'
          try simp_arith []
          cases l5 with
          | nil =>
            have e5 : o[b5]? = none := by have := dropn hb5 eb5; exact List.getElem?_eq_none (by omega)
            (repeat (simp_all_arith; simp_arith [↓cur_12 g5, ↓c_110 g5, e5, show ((-1 : Int) == 61) = false from rfl, Bool.not_false, ↓cur_1 g5, List.length_cons, List.length_nil]))
            exact h _ hf5
          | cons x l5 =>
          obtain ⟨e7, e8, e9⟩ := dropc eb5
          have g6 : (H5.set j (cur o (b5 + 1)))[j]? = some (cur o (b5 + 1)) := List.getElem?_set_self (List.getElem?_eq_some_iff.mp g5).1
          by_cases q61 : x.toNat = 61
          case neg =>
            rw [lc_cons, if_pos q61] at h
            (repeat (simp_all_arith; simp_arith [↓cur_12 g5, ↓c_110 g5, e7, ieq, q61, Bool.not_false, ↓cur_1 g6, List.length_cons, List.length_nil]))
            exact h _ (hf5.trans Fr.set)
          rw [lc_cons, if_neg (fun q => q q61)] at h
          (repeat (simp_all_arith; simp_arith [↓cur_12 g5, ↓c_110 g5, e7, ieq, q61, Bool.not_true]))
          refine d_338 g6 (by omega) G ?_
          rw [e9]
          cases es7 : skp l5 with
          | none => rw [es7] at h; exact fun H7 f7 => h _ ((hf5.trans Fr.set).trans f7)
          | some l7 =>
          rw [es7, Option.bind_some] at h
          intro b7 H7 eb7 hb7 f7 g7
          have fs7 := skp_len _ _ _ (Nat.le_refl _) es7
          have hf7 := (hf5.trans Fr.set).trans f7
          have hl7 := (Fr.set.trans f7 : Fr H5 H7 j) _ _ hne hl5
          have l7' : (o.drop b7).length ≤ (o.drop b5).length := by rw [eb7, eb5]; simp only [List.length_cons]; omega
          replace l7' := Nat.le_trans l7' l5'
          try simp_arith []
          (repeat (simp_all_arith; simp_arith [hl7]))
          refine d_359 g7 hb7 G ?_
          rw [eb7]
          cases ew : wor l7 with
          | none => rw [ew] at h; exact fun H8 f8 => h _ (hf7.trans f8)
          | some p =>
          obtain ⟨v, l8⟩ := p
          rw [ew, Option.bind_some] at h
          dsimp only at h
          intro b8 H8 eb8 hb8 hv f8 g8
          have fs8 := wor_len ew
          have hf8 := hf7.trans f8
          have hl8 := f8 _ _ hne hl7
          have l8' : (o.drop b8).length ≤ (o.drop b7).length := by rw [eb7, eb8]; exact fs8
          replace l8' := Nat.le_trans l8' l7'
          try simp_arith [hl8, List.length_map]
          refine ⟨by omega, ?_⟩
          have g9 : (H8.set H.length (.list (ps.map pairV ++ [pairV ((d :: l).takeWhile pT, v)])))[j]? = some (cur o b8) := by
            rw [List.getElem?_set_ne hne]; exact g8
          have hl9 : (H8.set H.length (.list (ps.map pairV ++ [pairV ((d :: l).takeWhile pT, v)])))[H.length]? = some (.list ((ps ++ [((d :: l).takeWhile pT, v)]).map pairV)) := by
            rw [List.getElem?_set_self (List.getElem?_eq_some_iff.mp hl8).1, List.map_append]; rfl
          have hf9 : Fr H (H8.set H.length (.list (ps.map pairV ++ [pairV ((d :: l).takeWhile pT, v)]))) j := fun i x n q => by
            have := (List.getElem?_eq_some_iff.mp q).1
            rw [List.getElem?_set_ne (by omega)]; exact hf8 i x n q
          change wpSs _ _ _ ⟨_, H8.set H.length (.list (ps.map pairV ++ [pairV ((d :: l).takeWhile pT, v)]))⟩ _ _ _ _
          generalize H8.set H.length (.list (ps.map pairV ++ [pairV ((d :: l).takeWhile pT, v)])) = H9 at g9 hl9 hf9 ⊢
          (repeat (simp_all_arith; simp_arith []))
          refine d_338 g9 hb8 G ?_
          rw [eb8]
          cases es9 : skp l8 with
          | none => rw [es9] at h; exact fun H7 f7 => h _ (hf9.trans f7)
          | some l9 =>
          rw [es9, Option.bind_some] at h
          intro b10 H10 eb10 hb10 f10 g10
          have fs10 := skp_len _ _ _ (Nat.le_refl _) es9
          have l10' : (o.drop b10).length ≤ (o.drop b8).length := by rw [eb10, eb8]; exact fs10
          replace l10' := Nat.lt_of_le_of_lt (Nat.le_trans l10' l8') l2'
          try simp_arith []
          refine ih b10 H10 _ _ (by omega) hb10 (by rw [List.length_append, List.length_singleton]; omega) ?_ (hf9.trans f10) g10 (f10 _ _ hne hl9) (by rw [eb10]; exact h)
          intro p hp
          rcases List.mem_append.mp hp with q | q
          · exact hps p q
          · rw [List.mem_singleton.mp q]; exact ⟨tl, hv⟩
    · rw [prs_c, if_pos q59] at h
      (repeat (simp_all_arith; simp_arith [↓cur_12 hg, ↓c_110 hg, e1, ieq, q59, Bool.not_false, ↓cur_1 hg2, List.length_cons, List.length_nil]))
      exact h _ (hf.trans Fr.set)
end
end Mine
end

noncomputable section
open PySem PySem.W PyProof.Rows PySem.Calls PySem.Spec
set_option maxRecDepth 100000
namespace Mine
section
variable {Φ : Fn} {hd : Bool} {st : St} {N : St → Prop} {R : AV → St → Prop} {C : St → Prop} {X : QX}
theorem wpS_forR {x : Str} {i : Nat} {px pr : Pos} {es : Es} {pc : Pos} {b : Ss} {p : Pos} : wpS Φ hd (.forR x i px pr es pc b p) st N R C X = (hd = false ∧ wpEs Φ hd es st (fun vs st₁ => rangeQ vs fun items => forQ (fun v st₂ K => wpSs Φ hd b (st₂.set i v) K R K X) (fun _ => True) N items st₁) X) := rfl
theorem wpS_for1 {x : Str} {i : Nat} {px : Pos} {it : E} {b : Ss} {p : Pos} : wpS Φ hd (.for1 x i px it b p) st N R C X = (hd = false ∧ wp Φ hd false it st (fun vi st₁ => iterQ hd vi st₁.hp fun items chk => forQ (fun v st₂ K => wpSs Φ hd b (st₂.set i v) K R K X) chk N items st₁) X) := rfl
theorem wpS_for2 {x : Str} {i : Nat} {px : Pos} {y : Str} {j : Nat} {py : Pos} {k : Nat} {pt : Pos} {it : E} {b : Ss} {p : Pos} : wpS Φ hd (.for2 x i px y j py k pt it b p) st N R C X = (hd = false ∧ wp Φ hd false it st (fun vi st₁ => iterQ hd vi st₁.hp fun items chk => forQ (fun v st₂ K => unp2 v fun x y => wpSs Φ hd b ((st₂.set i x).set j y) K R K X) chk N items st₁) X) := rfl
theorem rg1 {P : List AV → Prop} : rangeQ [.int 1, .int (1 + 1)] P = P [.int 1] := propext ⟨fun h => h.2.2.2.2, fun h => ⟨by decide, by decide, by decide, by decide, h⟩⟩
theorem rg2 {P : List AV → Prop} : rangeQ [.int 1, .int (2 + 1)] P = P [.int 1, .int 2] := propext ⟨fun h => h.2.2.2.2, fun h => ⟨by decide, by decide, by decide, by decide, h⟩⟩
end
noncomputable def Al (w : List UInt8) : Prop := ∀ c ∈ w, c.toNat < 128 ∨ c.toNat = 195 ∨ c.toNat = 169 ∨ c.toNat = 233
set_option backward.eqns.nonrecursive false in
noncomputable def utf : List UInt8 → Option (List Nat)
  | [] => some []
  | c :: r => if c.toNat < 128 then (utf r).map (c.toNat :: ·) else if c.toNat = 195 then (match r with
      | [] => none
      | x :: r' => if x.toNat = 169 then (utf r').map (233 :: ·) else none)
    else if c.toNat = 233 then (match r with
      | x :: y :: r' => if x.toNat = 169 ∧ y.toNat = 169 then (utf r').map (39529 :: ·) else none
      | _ => none)
    else none
section
variable {k : Nat} {hd : Bool} {hp H : Hp} {Q : AV → Hp → Prop} {X : Nat → Hp → Prop} {o : List UInt8} {a j : Nat}
theorem c_205a : iterF tab (k + 1) hd 205 [.int 195] hp Q X = Q (.tup [.int 128, .int 191, .int 1]) hp := by
  rw [at_205, b_follower_span]
  simp_arith [↓wrs0, ↓wrs1]
theorem c_205b : iterF tab (k + 1) hd 205 [.int 169] hp Q X = Q (.tup [.int 0, .int 0, .int 0]) hp := by
  rw [at_205, b_follower_span]
  simp_arith [↓wrs0, ↓wrs1]
theorem c_205c : iterF tab (k + 1) hd 205 [.int 233] hp Q X = Q (.tup [.int 128, .int 191, .int 2]) hp := by
  rw [at_205, b_follower_span]
  simp_arith [↓wrs0, ↓wrs1]
  simp only [show decide ((233 : Int) = 224) = false from rfl, show decide ((233 : Int) = 237) = false from rfl, ifB_ff]
theorem ge_len (e : o[a]? = none) : ((o.length : Int) ≤ (a : Int)) := by
  have := List.getElem?_eq_none_iff.mp e; omega
set_option backward.eqns.nonrecursive false in
noncomputable def lcd {α : Type} (l : List UInt8) (d : α) (f : UInt8 → List UInt8 → α) : α := match l with
  | [] => d
  | x :: r => f x r
theorem lcd_nil {α : Type} {d : α} {f : UInt8 → List UInt8 → α} : lcd [] d f = d := rfl
theorem lcd_cons {α : Type} {d : α} {x : UInt8} {r : List UInt8} {f : UInt8 → List UInt8 → α} : lcd (x :: r) d f = f x r := rfl
set_option backward.eqns.nonrecursive false in
noncomputable def sgn (l : List UInt8) : Int × Nat := lcd (α := Int × Nat) l (-1, 1) fun c r => if c.toNat < 128 then ((c.toNat : Int), 1) else if c.toNat = 195 then lcd (α := Int × Nat) r (-1, 1) fun x _ => if x.toNat = 169 then (233, 2) else (-1, 1)
    else if c.toNat = 233 then lcd (α := Int × Nat) r (-1, 1) fun x r => if x.toNat = 169 then lcd (α := Int × Nat) r (-1, 2) fun y _ => if y.toNat = 169 then (39529, 3) else (-1, 2) else (-1, 1)
    else (-1, 1)
theorem sgn_c {c : UInt8} {r : List UInt8} : sgn (c :: r) = if c.toNat < 128 then ((c.toNat : Int), 1) else if c.toNat = 195 then lcd (α := Int × Nat) r (-1, 1) fun x _ => if x.toNat = 169 then (233, 2) else (-1, 1)
    else if c.toNat = 233 then lcd (α := Int × Nat) r (-1, 1) fun x r => if x.toNat = 169 then lcd (α := Int × Nat) r (-1, 2) fun y _ => if y.toNat = 169 then (39529, 3) else (-1, 2) else (-1, 1)
    else (-1, 1) := rfl
set_option backward.eqns.nonrecursive false in
noncomputable def bodyOf : S → Ss
  | .forR _ _ _ _ _ _ b _ => b
  | _ => .nil
set_option backward.eqns.nonrecursive false in
noncomputable def nthS : Ss → Nat → S
  | .cons s _, 0 => s
  | .cons _ r, n + 1 => nthS r n
  | .nil, _ => .ret0 ⟨0, 0, 0, 0⟩
noncomputable def ubB : Ss := bodyOf (nthS b_utf8_sign 5)
noncomputable def ubS (o : List UInt8) (a : Nat) (v2 v5 : AV) (L M m i : Int) (hp : Hp) : St := ⟨[some (.bytes o), some (.int a), some v2, some (.int L), some (.int M), some v5, some (.int m), some (.int i)], hp⟩
section
variable {N C : St → Prop} {R : AV → St → Prop} {Y : QX} {v2 v5 : AV} {i L M m : Int} {x : UInt8}
theorem ub_end (l : (o.length : Int) ≤ (a : Int) + i) : wpSs (iterF tab k) false ubB (ubS o a v2 v5 L M m i hp) N R C Y = R (.tup [.int (-1), .int i]) (ubS o a v2 v5 L M m i hp) := by
  show wpSs _ _ (.cons _ (.cons _ _)) ⟨[_, _, _, _, _, _, _, _], hp⟩ _ _ _ _ = _
  (repeat (simp_all_arith; simp_arith [l]))
  rfl
theorem ub_in (h : 0 ≤ (a : Int) + i) (l : ¬ (o.length : Int) ≤ (a : Int) + i) (e : o[((a : Int) + i).toNat]? = some x) (g : L ≤ x.toNat) (g' : (x.toNat : Int) ≤ M) (s : small m) :
    wpSs (iterF tab k) false ubB (ubS o a v2 v5 L M m i hp) N R C Y = N (ubS o a v2 v5 128 191 (m * 64 + Int.fmod x.toNat 64) i hp) := by
  have s64 : small 64 := by unfold small; omega
  show wpSs _ _ (.cons _ (.cons _ _)) ⟨[_, _, _, _, _, _, _, _], hp⟩ _ _ _ _ = _
  (repeat (simp_all_arith; simp_arith [l, h, e, g, g', s, s64, Bool.not_true, ne_eq, Int.reduceEq, not_false_eq_true]))
  rfl
theorem ub_out (h : 0 ≤ (a : Int) + i) (l : ¬ (o.length : Int) ≤ (a : Int) + i) (e : o[((a : Int) + i).toNat]? = some x) (g : ¬ (L ≤ x.toNat ∧ (x.toNat : Int) ≤ M)) :
    wpSs (iterF tab k) false ubB (ubS o a v2 v5 L M m i hp) N R C Y = R (.tup [.int (-1), .int i]) (ubS o a v2 v5 L M m i hp) := by
  show wpSs _ _ (.cons _ (.cons _ _)) ⟨[_, _, _, _, _, _, _, _], hp⟩ _ _ _ _ = _
  by_cases g1 : L ≤ (x.toNat : Int)
  · have g2 : ¬ (x.toNat : Int) ≤ M := fun w => g ⟨g1, w⟩
    (repeat (simp_all_arith; simp_arith [l, h, e, g1, g2, Bool.not_false]))
    rfl
  · (repeat (simp_all_arith; simp_arith [l, h, e, g1, Bool.not_false]))
    rfl
end
theorem c_212 {c : UInt8} {r : List UInt8} (hA : Al o) (e : o.drop a = c :: r) : iterF tab (k + 2) false 212 [.bytes o, .int (a : Int)] hp Q X = Q (.tup [.int (sgn (c :: r)).1, .int ((sgn (c :: r)).2 : Nat)]) hp := by
  rw [at_212, b_utf8_sign]
  obtain ⟨e1, e2, e3⟩ := dropc e
  by_cases h128 : c.toNat < 128
  · have h1 : (c.toNat : Int) < 128 := by omega
    rw [sgn_c, if_pos h128]
    (repeat (simp_all_arith; simp_arith [e1, Int.natCast_nonneg, Int.toNat_natCast, h1]))
    rfl
  · have h1 : ¬ (c.toNat : Int) < 128 := by omega
    have bad : ∀ {x : UInt8} {i : Nat}, o[i]? = some x → ¬ x.toNat = 169 → ¬ ((128 : Int) ≤ x.toNat ∧ (x.toNat : Int) ≤ 191) := fun {x i} hx n w => by
      rcases hA x (List.mem_of_getElem? hx) with q | q | q | q <;> omega
    have one : ∀ {x : UInt8}, o[a + 1]? = some x → (a : Int) + 1 < o.length ∧ o[((a : Int) + 1).toNat]? = some x := fun {x} hx => ⟨by have := (List.getElem?_eq_some_iff.mp hx).1; omega, hx⟩
    have two : ∀ {x : UInt8}, o[a + 2]? = some x → (a : Int) + 2 < o.length ∧ o[((a : Int) + 2).toNat]? = some x := fun {x} hx => ⟨by have := (List.getElem?_eq_some_iff.mp hx).1; omega, hx⟩
    rcases hA c (drop_mem e) with q | q | q | q
    · exact absurd q h128
    · have n1 : ((195 : Nat) : Int) = 195 := rfl
      have k2 : Int.fdiv 64 (2 ^ Int.toNat 1) = 32 := rfl
      have k4 : Int.fmod 195 32 = 3 := rfl
      (repeat (simp_all_arith; simp_arith [e1, Int.natCast_nonneg, Int.toNat_natCast, q, n1, ↓c_205a, show ((1 : Int) == 0) = false from rfl, k2, k4, ne_eq, Int.reduceEq, not_false_eq_true]))
      simp_all_arith
      simp_arith [↓wpS_forR, ↓rg1, ↓forQ_cons]
      cases r with
      | nil =>
        have l0 : (o.length : Int) ≤ (a : Int) + 1 := by have := dropn (by omega) e3; omega
        rw [show sgn [c] = (-1, 1) by rw [sgn_c, if_neg h128, if_pos q]; rfl]
        exact (ub_end (v2 := .int 195) (v5 := .int 1) (L := 128) (M := 191) (m := 3) l0).trans rfl
      | cons x r' =>
        obtain ⟨l1, f1⟩ := one (dropc e3).1
        by_cases hx : x.toNat = 169
        · rw [show sgn (c :: x :: r') = (233, 2) by rw [sgn_c, if_neg h128, if_pos q, lcd_cons, if_pos hx]]
          refine (ub_in (v2 := .int 195) (v5 := .int 1) (L := 128) (M := 191) (m := 3) (by omega) (by omega) f1 (by omega) (by omega) (by unfold small; omega)).trans ?_
          simp only [↓forQ_nil, true_and, ubS, hx, ahead]
          (repeat (simp_all_arith; simp_arith []))
          rfl
        · rw [show sgn (c :: x :: r') = (-1, 1) by rw [sgn_c, if_neg h128, if_pos q, lcd_cons, if_neg hx]]
          exact (ub_out (v2 := .int 195) (v5 := .int 1) (L := 128) (M := 191) (m := 3) (by omega) (by omega) f1 (bad f1 hx)).trans rfl
    · rw [sgn_c, if_neg h128, if_neg (by omega), if_neg (by omega)]
      have n1 : ((169 : Nat) : Int) = 169 := rfl
      (repeat (simp_all_arith; simp_arith [e1, Int.natCast_nonneg, Int.toNat_natCast, q, n1, ↓c_205b, show ((0 : Int) == 0) = true from rfl, nc_one]))
    · have n1 : ((233 : Nat) : Int) = 233 := rfl
      have k2 : Int.fdiv 64 (2 ^ Int.toNat 2) = 16 := rfl
      have k4 : Int.fmod 233 16 = 9 := rfl
      (repeat (simp_all_arith; simp_arith [e1, Int.natCast_nonneg, Int.toNat_natCast, q, n1, ↓c_205c, show ((2 : Int) == 0) = false from rfl, k2, k4, ne_eq, Int.reduceEq, not_false_eq_true]))
      simp_all_arith
      simp_arith [↓wpS_forR, ↓rg2, ↓forQ_cons]
      cases r with
      | nil =>
        have l0 : (o.length : Int) ≤ (a : Int) + 1 := by have := dropn (by omega) e3; omega
        rw [show sgn [c] = (-1, 1) by rw [sgn_c, if_neg h128, if_neg (by omega), if_pos q]; rfl]
        exact (ub_end (v2 := .int 233) (v5 := .int 2) (L := 128) (M := 191) (m := 9) l0).trans rfl
      | cons x r' =>
        obtain ⟨f0, f2, f3⟩ := dropc e3
        obtain ⟨l1, f1⟩ := one f0
        by_cases hx : x.toNat = 169
        · refine (ub_in (v2 := .int 233) (v5 := .int 2) (L := 128) (M := 191) (m := 9) (by omega) (by omega) f1 (by omega) (by omega) (by unfold small; omega)).trans ?_
          simp only [↓forQ_cons, true_and, hx]
          cases r' with
          | nil =>
            have l2 : (o.length : Int) ≤ (a : Int) + 2 := by have := dropn (by omega) f3; omega
            rw [show sgn [c, x] = (-1, 2) by rw [sgn_c, if_neg h128, if_neg (by omega), if_pos q, lcd_cons, if_pos hx]; rfl]
            exact (ub_end (v2 := .int 233) (v5 := .int 2) (L := 128) (M := 191) (m := 617) l2).trans rfl
          | cons y r'' =>
            obtain ⟨l2, g1⟩ := two (dropc f3).1
            by_cases hy : y.toNat = 169
            · rw [show sgn (c :: x :: y :: r'') = (39529, 3) by rw [sgn_c, if_neg h128, if_neg (by omega), if_pos q, lcd_cons, if_pos hx, lcd_cons, if_pos hy]]
              refine (ub_in (v2 := .int 233) (v5 := .int 2) (L := 128) (M := 191) (m := 617) (by omega) (by omega) g1 (by omega) (by omega) (by unfold small; omega)).trans ?_
              simp only [↓forQ_nil, true_and, ubS, hy, ahead]
              (repeat (simp_all_arith; simp_arith []))
              rfl
            · rw [show sgn (c :: x :: y :: r'') = (-1, 2) by rw [sgn_c, if_neg h128, if_neg (by omega), if_pos q, lcd_cons, if_pos hx, lcd_cons, if_neg hy]]
              exact (ub_out (v2 := .int 233) (v5 := .int 2) (L := 128) (M := 191) (m := 617) (by omega) (by omega) g1 (bad g1 hy)).trans rfl
        · rw [show sgn (c :: x :: r') = (-1, 1) by rw [sgn_c, if_neg h128, if_neg (by omega), if_pos q, lcd_cons, if_neg hx]]
          exact (ub_out (v2 := .int 233) (v5 := .int 2) (L := 128) (M := 191) (m := 9) (by omega) (by omega) f1 (bad f1 hx)).trans rfl
end
end Mine
end

noncomputable section
open PySem PySem.W PyProof.Rows PySem.Calls PySem.Spec
set_option maxRecDepth 100000
namespace Mine
noncomputable def pB (bey : Bool) (c : UInt8) : Bool := tokI c.toNat || (bey && decide ((127 : Int) < c.toNat))
theorem pB_false : pB false = pT := by funext c; simp [pB, pT]
theorem pB_true : pB true = pW := by funext c; simp [pB, pW, Bool.or_comm]
section
variable {k : Nat} {hd : Bool} {hp H : Hp} {Q : AV → Hp → Prop} {X : Nat → Hp → Prop} {o : List UInt8} {a j : Nat}
set_option backward.eqns.nonrecursive false in
noncomputable def rnR (p : UInt8 → Bool) (o : List UInt8) (a : Nat) (H : Hp) (Q : AV → Hp → Prop) : Prop :=
  if (o.drop a).takeWhile p = [] then Q .none H else ∀ b, o.drop b = (o.drop a).dropWhile p → b ≤ o.length → (o.drop a).takeWhile p = (o.drop a).take (b - a) → Q (.int (b : Int)) H
theorem c_505 {bey : Bool} (ha : a ≤ o.length) (h : rnR (pB bey) o a hp Q) : iterF tab (k + 1) hd 505 [.bytes o, .int (a : Int), .bool bey] hp Q X := by
  rw [at_505, b_l_run]
  (repeat (simp_all_arith; simp_arith []))
  (first | rw [wpS_whl] | (simp_all_arith; rw [wpS_whl]))
  intro P hP
  suffices key : ∀ n b, o.length - b = n → a ≤ b → b ≤ o.length → (o.drop b).dropWhile (pB bey) = (o.drop a).dropWhile (pB bey) → P ⟨[some (.bytes o), some (.int (a : Int)), some (.bool bey), some (.int (b : Int))], hp⟩ from
    key _ a rfl (Nat.le_refl _) ha rfl
  intro n
  induction n using Nat.strongRecOn with
  | _ n ih =>
  intro b hn hab hb hw
  have fin : o.drop b = (o.drop a).dropWhile (pB bey) → (b = a → Q .none hp) ∧ (¬ b = a → Q (.int (b : Int)) hp) := fun eb => by
    have et := tk_end hab hb eb
    unfold rnR at h
    refine ⟨fun q => ?_, fun q => ?_⟩
    · rw [et, q, Nat.sub_self, if_pos (by simp)] at h; exact h
    · have ne : (o.drop a).takeWhile (pB bey) ≠ [] := by
        rw [et]; exact tk_ne hab hb q
      rw [if_neg ne] at h
      exact h b eb hb et
  have fin2 : o.drop b = (o.drop a).dropWhile (pB bey) → ifB (decide (b = a)) (Q .none hp) (Q (.int (b : Int)) hp) := fun eb => by
    obtain ⟨f1, f2⟩ := fin eb
    exact ifB_mk (fun q => f1 (by simpa using q)) fun q => f2 (by simpa using q)
  refine hP _ ?_
  cases e : o.drop b with
  | nil =>
    have eb : o.drop b = (o.drop a).dropWhile (pB bey) := by rw [← hw, e]; rfl
    have l1 : ¬ (b : Int) < o.length := by have := dropn hb e; omega
    simp_arith [l1]
    (repeat (simp_all_arith; simp_arith [ieqn]))
    exact fin2 eb
  | cons c r =>
    obtain ⟨e1, e2, e3⟩ := dropc e
    have l1 : (b : Int) < o.length := by omega
    have nxt : pB bey c = true → P ⟨[some (.bytes o), some (.int (a : Int)), some (.bool bey), some (.int ((b + 1 : Nat) : Int))], hp⟩ := fun q =>
      ih _ (by omega) (b + 1) rfl (by omega) (by omega) (by rw [← hw, e, e3, List.dropWhile_cons, if_pos q])
    have fin3 : pB bey c = false → ifB (decide (b = a)) (Q .none hp) (Q (.int (b : Int)) hp) := fun q =>
      fin2 (by rw [← hw, e, List.dropWhile_cons, if_neg (by simp [q])])
    have r1 := (byte_rng c).1
    have r2 := (byte_rng c).2
    unfold pB tokI barred at nxt fin3
    cases h3 : byteIn (c.toNat : Int) [40, 41, 60, 62, 64, 44, 59, 58, 92, 34, 47, 91, 93, 63, 61] <;> by_cases h1 : (32 : Int) < c.toNat <;> by_cases h2 : (c.toNat : Int) < 127 <;> by_cases h4 : (127 : Int) < c.toNat <;> cases bey <;>
      (simp_arith [l1, e1, Int.natCast_nonneg, Int.toNat_natCast, r2, h1, h2, h3, h4, Bool.not_true, Bool.not_false]
       (repeat (simp_all_arith; simp_arith [nat_succ, ieqn]))
       first
       | exact nxt (by simp [h1, h2, h3, h4])
       | exact fin3 (by simp [h1, h2, h3, h4]))
set_option backward.eqns.nonrecursive false in
noncomputable def lqR (o : List UInt8) (hp : Hp) (Q : AV → Hp → Prop) : Option (List UInt8 × List UInt8) → Prop
  | none => Q .none hp
  | some (w, r) => ∀ b, o.drop b = r → b ≤ o.length → Q (.tup [.bytes w, .int (b : Int)]) hp
theorem eqlen {b : Nat} (h : b < o.length) : ((b : Int) == (o.length : Int)) = false := by rw [beq_eq_false_iff_ne]; omega
theorem in_crlf (n : Nat) : byteIn (n : Int) [13, 10] = decide (n = 13 ∨ n = 10) := by
  rw [bIn, Bool.decide_or]
  exact congrArg (fun x => _ || x) (Bool.or_false _)
theorem c_512 (ha : a + 1 ≤ o.length) (ho : o.length ≤ 1000) (h : lqR o hp Q (qtd (o.drop (a + 1)) [])) : iterF tab (k + 1) hd 512 [.bytes o, .int (a : Int)] hp Q X := by
  rw [at_512, b_l_quoted]
  (repeat (simp_all_arith; simp_arith [nat_succ]))
  (first | rw [wpS_whl] | (simp_all_arith; rw [wpS_whl]))
  intro P hP
  suffices inner : ∀ (m b : Nat) (acc : List UInt8), o.length - b = m → b ≤ o.length → acc.length + (o.length - b) ≤ 1000 → lqR o hp Q (qtd (o.drop b) acc) →
      P ⟨[some (.bytes o), some (.int (b : Int)), some (.bytes acc)], hp⟩ from inner _ (a + 1) [] rfl ha (by rw [List.length_nil]; omega) h
  intro m
  induction m using Nat.strongRecOn with
  | _ m ih =>
  intro b acc hm hb hl h
  refine hP _ ?_
  cases e : o.drop b with
  | nil =>
    have l1 : ¬ (b : Int) < o.length := by have := dropn hb e; omega
    have l2 : (o.length : Int) ≤ b := by omega
    rw [e] at h
    simp_arith [l1]
    (repeat (simp_all_arith; simp_arith [l2]))
    exact h
  | cons c r =>
    obtain ⟨e1, e2, e3⟩ := dropc e
    have l1 : (b : Int) < o.length := by omega
    have l2 : ¬ (o.length : Int) ≤ b := by omega
    rw [e, qtd_cons] at h
    by_cases q34 : c.toNat = 34
    · rw [if_pos q34] at h
      simp_arith [l1, e1, Int.natCast_nonneg, Int.toNat_natCast, ieq, q34, Bool.not_true]
      (repeat (simp_all_arith; simp_arith [l2, nat_succ]))
      exact h _ e3 (by omega)
    rw [if_neg q34] at h
    simp_arith [l1, e1, Int.natCast_nonneg, Int.toNat_natCast, ieq, q34, Bool.not_false]
    by_cases q92 : c.toNat = 92
    · rw [if_pos q92] at h
      cases r with
      | nil =>
        have l3 : b + 1 = o.length := by have := dropn (by omega) e3; omega
        (repeat (simp_all_arith; simp_arith [e1, Int.natCast_nonneg, Int.toNat_natCast, ieq, q92, nat_succ, l3]))
        exact h
      | cons x r' =>
        obtain ⟨f1, f2, f3⟩ := dropc e3
        have r2 := (byte_rng x).2
        rw [lc_cons] at h
        by_cases hx : x.toNat = 13 ∨ x.toNat = 10
        · rw [if_pos hx] at h
          (repeat (simp_all_arith; simp_arith [e1, f1, Int.natCast_nonneg, Int.toNat_natCast, ieq, q92, nat_succ, eqlen f2, r2, in_crlf, hx]))
          exact h
        · rw [if_neg hx] at h
          (repeat (simp_all_arith; simp_arith [e1, f1, Int.natCast_nonneg, Int.toNat_natCast, ieq, q92, nat_succ, eqlen f2, r2, in_crlf, hx, cut_nat, e3, Nat.add_sub_cancel_left, List.take_succ_cons, List.take_zero, List.length_singleton]))
          exact ⟨by omega, ih _ (by omega) (b + 1 + 1) _ rfl (by omega) (by rw [List.length_append, List.length_singleton]; omega) (by rw [f3]; exact h)⟩
    · rw [if_neg q92] at h
      by_cases q10 : c.toNat = 10
      · rw [if_pos q10] at h
        (repeat (simp_all_arith; simp_arith [e1, e, Int.natCast_nonneg, Int.toNat_natCast, ieq, q10, nat_succ, nat_two, cut_nat, Nat.add_sub_cancel_left, beq_13_10, false_and]))
        exact ih _ (by omega) (b + 1) _ rfl (by omega) (by omega) (by rw [e3]; exact h)
      · rw [if_neg q10] at h
        by_cases q13 : c.toNat = 13
        · rw [if_pos q13] at h
          cases r with
          | nil =>
            (repeat (simp_all_arith; simp_arith [e1, e, Int.natCast_nonneg, Int.toNat_natCast, ieq, q13, nat_succ, nat_two, cut_nat, Nat.add_sub_cancel_left, beq_13_10, List.head?_nil, Option.map_none, reduceCtorEq, and_false]))
            exact h
          | cons x r' =>
            rw [lc_cons] at h
            by_cases hx : x.toNat = 10
            · rw [if_pos hx] at h
              obtain ⟨f1, f2, f3⟩ := dropc e3
              (repeat (simp_all_arith; simp_arith [e1, e, Int.natCast_nonneg, Int.toNat_natCast, ieq, q13, nat_succ, nat_two, cut_nat, Nat.add_sub_cancel_left, beq_13_10, List.head?_cons, Option.map_some, hx]))
              exact ih _ (by omega) (b + 2) _ rfl (by omega) (by omega) (by rw [f3]; exact h)
            · rw [if_neg hx] at h
              (repeat (simp_all_arith; simp_arith [e1, e, Int.natCast_nonneg, Int.toNat_natCast, ieq, q13, nat_succ, nat_two, cut_nat, Nat.add_sub_cancel_left, beq_13_10, List.head?_cons, Option.map_some, hx, and_false]))
              exact h
        · rw [if_neg q13] at h
          (repeat (simp_all_arith; simp_arith [e1, e, Int.natCast_nonneg, Int.toNat_natCast, ieq, q92, q10, q13, nat_succ, nat_two, cut_nat, Nat.add_sub_cancel_left, beq_13_10, false_and]))
          refine ⟨by simp; omega, ?_⟩
          rw [List.take_succ_cons, List.take_zero]
          exact ih _ (by omega) (b + 1) _ rfl (by omega) (by rw [List.length_append, List.length_singleton]; omega) (by rw [e3]; exact h)
end
end Mine
end

noncomputable section
open PySem PySem.W PyProof.Rows PySem.Calls PySem.Spec
set_option maxRecDepth 100000
namespace Mine
theorem utf_cons {c : UInt8} {r : List UInt8} : utf (c :: r) = if c.toNat < 128 then (utf r).map (c.toNat :: ·) else if c.toNat = 195 then lcd r none (fun x r' => if x.toNat = 169 then (utf r').map (233 :: ·) else none)
    else if c.toNat = 233 then lcd r none (fun x r => lcd r none fun y r' => if x.toNat = 169 ∧ y.toNat = 169 then (utf r').map (39529 :: ·) else none)
    else none := by
  cases r with
  | nil => rfl
  | cons x r => cases r <;> rfl
theorem sgn_utf {c : UInt8} {r : List UInt8} : ((sgn (c :: r)).1 = -1 ∧ utf (c :: r) = none) ∨
    ∃ n len : Nat, sgn (c :: r) = ((n : Int), len) ∧ n < 1114112 ∧ 1 ≤ len ∧ len ≤ (c :: r).length ∧ utf (c :: r) = (utf ((c :: r).drop len)).map (n :: ·) := by
  have hc := c.toNat_lt
  rw [utf_cons]
  rw [sgn_c]
  by_cases h1 : c.toNat < 128
  · rw [if_pos h1, if_pos h1]
    exact .inr ⟨c.toNat, 1, rfl, by omega, by omega, by simp, rfl⟩
  rw [if_neg h1, if_neg h1]
  by_cases h2 : c.toNat = 195
  · rw [if_pos h2, if_pos h2]
    cases r with
    | nil => exact .inl ⟨rfl, rfl⟩
    | cons x r' =>
      by_cases hx : x.toNat = 169
      · simp only [lcd_cons, lcd_nil, hx, if_true]; exact .inr ⟨233, 2, rfl, by omega, by omega, by simp, rfl⟩
      · simp only [lcd_cons, lcd_nil, hx, if_false]; exact .inl ⟨by trivial, by trivial⟩
  rw [if_neg h2, if_neg h2]
  by_cases h3 : c.toNat = 233
  · rw [if_pos h3, if_pos h3]
    cases r with
    | nil => exact .inl ⟨rfl, rfl⟩
    | cons x r' =>
      cases r' with
      | nil =>
        by_cases hx : x.toNat = 169
        · simp only [lcd_cons, lcd_nil, hx, if_true]; exact .inl ⟨by trivial, by trivial⟩
        · simp only [lcd_cons, lcd_nil, hx, if_false]; exact .inl ⟨by trivial, by trivial⟩
      | cons y r'' =>
        by_cases hx : x.toNat = 169
        · by_cases hy : y.toNat = 169
          · simp only [lcd_cons, lcd_nil, hx, hy, if_true, and_self]; exact .inr ⟨39529, 3, rfl, by omega, by omega, by simp, rfl⟩
          · simp only [lcd_cons, lcd_nil, hx, hy, if_true, if_false, and_false]; exact .inl ⟨by trivial, by trivial⟩
        · simp only [lcd_cons, lcd_nil, hx, if_false, false_and]; exact .inl ⟨by trivial, by trivial⟩
  · rw [if_neg h3, if_neg h3]; exact .inl ⟨rfl, rfl⟩
noncomputable def sg1 (ns : List Nat) : List AV := ns.map fun n => .str (sOf [n])
section
variable {k : Nat} {hd : Bool} {hp H : Hp} {Q : AV → Hp → Prop} {X : Nat → Hp → Prop} {w : List UInt8} {a j : Nat}
theorem c_198a : iterF tab (k + 1) hd 198 [.str "utf-8"] hp Q X = Q .none hp := by
  rw [at_198, b_need_charset]
  simp_arith [↓wrs0, ↓wrs1, show inTup (.str "utf-8") [.str "us-ascii", .str "iso-8859-1", .str "utf-8"] = some true from rfl, Bool.not_true]
theorem c_198b : iterF tab (k + 1) hd 198 [.str "iso-8859-1"] hp Q X = Q .none hp := by
  rw [at_198, b_need_charset]
  simp_arith [↓wrs0, ↓wrs1, show inTup (.str "iso-8859-1") [.str "us-ascii", .str "iso-8859-1", .str "utf-8"] = some true from rfl, Bool.not_true]
theorem c_219a {c : UInt8} {r : List UInt8} (hA : Al w) (e : w.drop a = c :: r) : iterF tab (k + 3) false 219 [.str "utf-8", .bytes w, .int (a : Int)] hp Q X = Q (.tup [.int (sgn (c :: r)).1, .int ((sgn (c :: r)).2 : Nat)]) hp := by
  rw [at_219, b_sign_at]
  (repeat (simp_all_arith; simp_arith [show (("utf-8" : Str) == "utf-8") = true from rfl]))
  rw [c_212 hA e]
  rfl
theorem c_219b {c : UInt8} {r : List UInt8} (e : w.drop a = c :: r) : iterF tab (k + 1) hd 219 [.str "iso-8859-1", .bytes w, .int (a : Int)] hp Q X = Q (.tup [.int (c.toNat : Int), .int 1]) hp := by
  rw [at_219, b_sign_at]
  (repeat (simp_all_arith; simp_arith [show (("iso-8859-1" : Str) == "utf-8") = false from rfl, show (("iso-8859-1" : Str) == "us-ascii") = false from rfl, (dropc e).1, Int.natCast_nonneg, Int.toNat_natCast]))
theorem sg_join {ns : List Nat} (h : ns.length ≤ 1000) (q : Q (.str (sOf ns)) H) (hj : H[j]? = some (.list (sg1 ns))) : joiQ (.str "") (.obj j) H fun v => Q v H := by
  have e2 := strsOf_map (fun n => sOf [n]) ns
  have e3 := signs_ok (b := ns) (by omega)
  simp only [joiQ, isO, atL, hj]
  refine ⟨by decide, _, e2, e3, ?_⟩
  rw [join_signs]
  exact ⟨by rw [sOf_len]; omega, q⟩
set_option backward.eqns.nonrecursive false in
noncomputable def utR (hp : Hp) (Q : AV → Hp → Prop) (X : Nat → Hp → Prop) (ns : List Nat) : Option (List Nat) → Prop
  | none => ∀ g, X 71 (hp ++ g)
  | some l => ∀ g, Q (.str (sOf (ns ++ l))) (hp ++ g)
theorem c_233 (hA : Al w) (hw : w.length ≤ 1000) (h : utR hp Q X [] (utf w)) : iterF tab (k + 4) false 233 [.str "utf-8", .bytes w] hp Q X := by
  rw [at_233, b_strict_text]
  (repeat (simp_all_arith; simp_arith [c_198a]))
  (first | rw [wpS_whl] | (simp_all_arith; rw [wpS_whl]))
  intro P hP
  suffices inner : ∀ (m b : Nat) (ns : List Nat) v4 v5, w.length - b = m → b ≤ w.length → ns.length + (w.length - b) ≤ 1000 → utR hp Q X ns (utf (w.drop b)) →
      P ⟨[some (.str "utf-8"), some (.bytes w), some (.obj hp.length), some (.int (b : Int)), v4, v5], hp ++ [.list (sg1 ns)]⟩ from inner _ 0 [] _ _ rfl (by omega) (by rw [List.length_nil]; omega) h
  intro m
  induction m using Nat.strongRecOn with
  | _ m ih =>
  intro b ns v4 v5 hm hb hl h
  refine hP _ ?_
  cases e : w.drop b with
  | nil =>
    have l1 : ¬ (b : Int) < w.length := by have := dropn hb e; omega
    rw [e] at h
    simp_arith [l1]
    simp_all_arith
    simp -dsimp only [↓wS0, ↓wS1, ↓wS2, ↓wS3, ↓wS4, ↓wS5, ↓wS6, ↓wS7, ↓wS8, ↓wS9, ↓wS10, ↓wS11, ↓wS12, ↓wq0, ↓wq1, ↓wq2, ↓wq3, ↓wq4, ↓wq5, ↓wq6, ↓wq7, ↓wq8, ↓wq9, ↓wq10, ↓wq11, ↓wq12, ↓wq13, ↓wq14, ↓wq15, ↓wq16, ↓wq17, ↓wq18, ↓wq19, ↓wq20, ↓wq21, ↓wh22, ↓wh23, ↓hold_, ↓wq24, ↓wq25, ↓wq26, ↓wq27, ↓wq28, ↓wq29, ↓wq30, kv0, kv1, kv2, kv3, kv4, List.getElem?_cons_zero, List.getElem?_cons_succ, finQ, ahead, onO, isI, isSt, isO, isY, isN, isT, atL, atD, isSB]
    refine ⟨trivial, sg_join (by omega) ?_ getC⟩
    have := h [.list (sg1 ns)]
    rw [List.append_nil] at this
    exact this
  | cons c r =>
    obtain ⟨e1, e2, e3⟩ := dropc e
    have l1 : (b : Int) < w.length := by omega
    rw [e] at h
    simp_arith [l1]
    rcases sgn_utf (c := c) (r := r) with ⟨f1, f2⟩ | ⟨n, len, f1, f2, f3, f4, f5⟩
    · rw [f2] at h
      (repeat (simp_all_arith; simp_arith [↓c_219a hA e, f1, List.length_cons, List.length_nil]))
      exact ⟨by decide, h _⟩
    · have f6 : ¬ (n : Int) < 0 := by omega
      have f7 : (b : Int) + (len : Int) = ((b + len : Nat) : Int) := rfl
      have f8 : (n : Int) < 1114112 := by omega
      have l2 : (c :: r).length = w.length - b := by rw [← e, List.length_drop]
      rw [f5] at h
      (repeat (simp_all_arith; simp_arith [↓c_219a hA e, f1, f6, f7, getC, setC, f8, Int.natCast_nonneg]))
      refine ⟨by rw [sg1, List.length_map]; omega, ?_⟩
      have := ih (w.length - (b + len)) (by omega) (b + len) (ns ++ [n]) (some (.int (n : Int))) (some (.int (len : Int))) rfl (by omega) (by rw [List.length_append, List.length_singleton]; omega) (by
        rw [← List.drop_drop, e]
        cases eu : utf ((c :: r).drop len) with
        | none => rw [eu] at h; exact h
        | some l =>
          rw [eu] at h
          intro g
          rw [List.append_assoc]
          exact h g)
      rw [sg1, List.map_append] at this
      exact this
theorem c_226 (hw : w.length ≤ 1000) (h : ∀ g, Q (.str (sOf (w.map (·.toNat)))) (hp ++ g)) : iterF tab (k + 4) hd 226 [.str "iso-8859-1", .bytes w] hp Q X := by
  rw [at_226, b_text_in]
  (repeat (simp_all_arith; simp_arith [c_198b]))
  (first | rw [wpS_whl] | (simp_all_arith; rw [wpS_whl]))
  intro P hP
  suffices inner : ∀ (m b : Nat) (ns : List Nat) v4 v5, w.length - b = m → b ≤ w.length → ns.length = b → ns ++ (w.drop b).map (·.toNat) = w.map (·.toNat) →
      P ⟨[some (.str "iso-8859-1"), some (.bytes w), some (.obj hp.length), some (.int (b : Int)), v4, v5], hp ++ [.list (sg1 ns)]⟩ from inner _ 0 [] _ _ rfl (by omega) rfl rfl
  intro m
  induction m using Nat.strongRecOn with
  | _ m ih =>
  intro b ns v4 v5 hm hb hl hn
  refine hP _ ?_
  cases e : w.drop b with
  | nil =>
    have l1 : ¬ (b : Int) < w.length := by have := dropn hb e; omega
    rw [e] at hn
    simp_arith [l1]
    simp_all_arith
    simp -dsimp only [↓wS0, ↓wS1, ↓wS2, ↓wS3, ↓wS4, ↓wS5, ↓wS6, ↓wS7, ↓wS8, ↓wS9, ↓wS10, ↓wS11, ↓wS12, ↓wq0, ↓wq1, ↓wq2, ↓wq3, ↓wq4, ↓wq5, ↓wq6, ↓wq7, ↓wq8, ↓wq9, ↓wq10, ↓wq11, ↓wq12, ↓wq13, ↓wq14, ↓wq15, ↓wq16, ↓wq17, ↓wq18, ↓wq19, ↓wq20, ↓wq21, ↓wh22, ↓wh23, ↓hold_, ↓wq24, ↓wq25, ↓wq26, ↓wq27, ↓wq28, ↓wq29, ↓wq30, kv0, kv1, kv2, kv3, kv4, List.getElem?_cons_zero, List.getElem?_cons_succ, finQ, ahead, onO, isI, isSt, isO, isY, isN, isT, atL, atD, isSB]
    refine ⟨trivial, sg_join (by omega) ?_ getC⟩
    rw [show ns = w.map (·.toNat) from by simpa using hn]
    exact h _
  | cons c r =>
    obtain ⟨e1, e2, e3⟩ := dropc e
    have l1 : (b : Int) < w.length := by omega
    have f8 : (c.toNat : Int) < 1114112 := by have := c.toNat_lt; omega
    simp_arith [l1]
    (repeat (simp_all_arith; simp_arith [↓c_219b e, Int.natCast_nonneg, getC, setC, f8, nat_succ]))
    refine ⟨by rw [sg1, List.length_map]; omega, ?_⟩
    have := ih (w.length - (b + 1)) (by omega) (b + 1) (ns ++ [c.toNat]) (some (.int (c.toNat : Int))) (some (.int 1)) rfl (by omega) (by rw [List.length_append, List.length_singleton]; omega) (by
      rw [e3, ← hn, e, List.append_assoc]; rfl)
    rw [sg1, List.map_append] at this
    exact this
set_option backward.eqns.nonrecursive false in
noncomputable def gs (w : List UInt8) : Str := match utf w with
  | some l => sOf l
  | none => sOf (w.map (·.toNat))
theorem c_240 (hA : Al w) (hw : w.length ≤ 1000) (h : ∀ g, Q (.str (gs w)) (hp ++ g)) : iterF tab (k + 5) false 240 [.bytes w] hp Q X := by
  (rw [at_240, b_guessed_text]; simp_all_arith; rw [wpS_tr])
  refine ⟨rfl, ?_⟩
  (repeat (simp_all_arith; simp_arith []))
  refine c_233 hA hw ?_
  unfold gs at h
  cases e : utf w with
  | some l => rw [e] at h; exact h
  | none =>
    rw [e] at h
    intro g
    refine ⟨rfl, ?_⟩
    (repeat (simp_all_arith; simp_arith []))
    refine c_226 hw fun g' => ?_
    rw [List.append_assoc]; exact h _
end
end Mine
end

noncomputable section
open PySem PySem.W PyProof.Rows PySem.Calls PySem.Spec
set_option maxRecDepth 100000
namespace Mine
theorem cmt_suf : ∀ (n d : Nat) (l r : List UInt8), l.length ≤ n → cmt d l = some r → r <:+ l
  | n, d, [], r, _, h => non h
  | 0, d, c :: l, r, hn, h => by simp at hn
  | n + 1, d, c :: l, r, hn, h => by
    have hn : l.length ≤ n := by simpa using hn
    have up : ∀ {l' : List UInt8}, r <:+ l' → l' <:+ l → r <:+ c :: l := fun a b => (a.trans b).trans (List.suffix_cons _ _)
    rw [cmt_cons] at h
    split at h
    · replace h := lc_some h; obtain ⟨x, l', rfl, h⟩ := h
      split at h
      · cases h
      · exact up (cmt_suf n d _ r (Nat.le_of_succ_le hn) h) (List.suffix_cons _ _)
    · split at h
      · cases h
      · split at h
        · exact up (cmt_suf n _ l r hn h) (List.suffix_refl _)
        · split at h
          · split at h
            · cases h; exact List.suffix_cons _ _
            · exact up (cmt_suf n _ l r hn h) (List.suffix_refl _)
          · exact up (cmt_suf n _ l r hn h) (List.suffix_refl _)
theorem skp_suf : ∀ (n : Nat) (l r : List UInt8), l.length ≤ n → skp l = some r → r <:+ l
  | _, [], r, _, h => by rw [skp_nil] at h; cases h; exact List.suffix_refl _
  | 0, c :: l, _, hn, _ => by simp at hn
  | n + 1, c :: l, r, hn, h => by
    have hn : l.length ≤ n := by simpa using hn
    rw [skp_cons] at h
    split at h
    · exact (skp_suf n l r hn h).trans (List.suffix_cons _ _)
    · split at h
      · cases e : cmt 1 l with
        | none => rw [e] at h; cases h
        | some l' =>
          rw [e] at h
          have := cmt_len _ _ _ _ (Nat.le_refl _) e
          exact ((skp_suf n l' r (by omega) h).trans (cmt_suf _ _ _ _ (Nat.le_refl _) e)).trans (List.suffix_cons _ _)
      · cases h; exact List.suffix_refl _
theorem ins_suf {c : UInt8} {r bs r' : List UInt8} (h : ins (c :: r) = some (bs, r')) : r' <:+ c :: r ∧ ∀ x ∈ bs, x ∈ c :: r := by
  rw [ins_c] at h
  split at h
  · replace h := lc_some h; obtain ⟨x, l, rfl, h⟩ := h
    split at h
    · cases h
    · cases h; exact ⟨(List.suffix_cons _ _).trans (List.suffix_cons _ _), by simp⟩
  · split at h
    · cases h; exact ⟨List.suffix_cons _ _, by simp⟩
    · split at h
      · replace h := lc_some h; obtain ⟨x, l, rfl, h⟩ := h
        split at h
        · cases h; exact ⟨(List.suffix_cons _ _).trans (List.suffix_cons _ _), by simp⟩
        · cases h
      · cases h; exact ⟨List.suffix_cons _ _, by simp⟩
theorem qtd_suf : ∀ (n : Nat) (l acc w r : List UInt8), l.length ≤ n → qtd l acc = some (w, r) → r <:+ l ∧ ∀ x ∈ w, x ∈ acc ∨ x ∈ l
  | _, [], _, _, _, _, h => non h
  | 0, c :: l, _, _, _, hn, _ => by simp at hn
  | n + 1, c :: l, acc, w, r, hn, h => by
    by_cases h34 : c.toNat = 34
    · rw [qtd_cons, if_pos h34] at h; cases h; exact ⟨List.suffix_cons _ _, fun x hx => .inl hx⟩
    · have q := qtd_ins (r := l) (acc := acc) h34
      cases ei : ins (c :: l) with
      | none => rw [q.1 ei] at h; cases h
      | some p =>
        obtain ⟨bs, r'⟩ := p
        obtain ⟨q1, q2, _⟩ := q.2 _ _ ei
        obtain ⟨s1, s2⟩ := ins_suf ei
        rw [q1] at h
        obtain ⟨t1, t2⟩ := qtd_suf n r' _ w r (by simp only [List.length_cons] at hn q2; omega) h
        refine ⟨t1.trans s1, fun x hx => ?_⟩
        rcases t2 x hx with z | z
        · rcases List.mem_append.mp z with z | z
          · exact .inl z
          · exact .inr (s2 x z)
        · exact .inr (s1.subset z)
theorem tw_len {p : UInt8 → Bool} {l : List UInt8} (h : l.takeWhile p ≠ []) : (l.dropWhile p).length < l.length := by
  have e := List.takeWhile_append_dropWhile (p := p) (l := l)
  have e2 : l.length = (l.takeWhile p).length + (l.dropWhile p).length := by rw [← List.length_append, e]
  have : 0 < (l.takeWhile p).length := List.length_pos_iff.mpr h
  omega
set_option tactic.hygienic true in
theorem wor_suf {l w r : List UInt8} (h : wor l = some (w, r)) : r <:+ l ∧ r.length < l.length ∧ ∀ x ∈ w, x ∈ l := by
  cases l with
  | nil => exact non h
  | cons c r0 =>
    rw [wor_c] at h
    split at h
    · have q := qtd_len _ _ _ _ _ (Nat.le_refl _) h
      obtain ⟨a, b⟩ := qtd_suf _ _ _ _ _ (Nat.le_refl _) h
      refine ⟨a.trans (List.suffix_cons _ _), by simp only [List.length_cons]; omega, fun x hx => ?_⟩
      rcases b x hx with z | z
      · cases z
      · exact .tail _ z
    · split at h
      · cases h
      · rename_i hne
        cases h
        exact ⟨List.dropWhile_suffix _, tw_len hne, fun x hx => (List.takeWhile_sublist _).subset hx⟩
noncomputable def okc (c : UInt8) : Prop := c.toNat ≠ 0 ∧ c.toNat ≠ 42 ∧ (c.toNat < 128 ∨ c.toNat = 195 ∨ c.toNat = 169 ∨ c.toNat = 233)
noncomputable def okp (p : List UInt8 × List UInt8) : Prop := (∀ c ∈ p.1, okc c) ∧ (∀ c ∈ p.2, okc c)
set_option tactic.hygienic true in
theorem prs_ok : ∀ (n : Nat) (acc : Prs) (l : List UInt8) (ps : Prs), (∀ p ∈ acc, okp p) → (∀ c ∈ l, okc c) → prs n acc l = some ps → (∀ p ∈ ps, okp p) ∧ 4 * ps.length ≤ 4 * acc.length + l.length
  | 0, _, _, _, _, _, h => by cases h
  | n + 1, acc, [], ps, ha, _, h => by obtain rfl := Option.some.inj h; exact ⟨ha, by simp⟩
  | n + 1, acc, c :: r, ps, ha, hl, h => by
    rw [prs_c] at h
    split at h
    · cases h
    · cases e1 : skp r with
      | none => rw [e1] at h; cases h
      | some l1 =>
        rw [e1, Option.bind_some] at h
        have s1 := skp_suf _ _ _ (Nat.le_refl _) e1
        have m1 : ∀ x ∈ l1, okc x := fun x hx => hl x (.tail _ (s1.subset hx))
        have n1 := s1.length_le
        cases l1 with
        | nil => obtain rfl := Option.some.inj h; exact ⟨ha, by simp only [List.length_cons]; omega⟩
        | cons d l =>
          rw [prs1_c] at h
          split at h
          · obtain ⟨a, b⟩ := prs_ok n acc _ ps ha m1 h
            exact ⟨a, by simp only [List.length_cons] at b n1 ⊢; omega⟩
          · split at h
            · cases h
            · rename_i hne
              cases e2 : skp ((d :: l).dropWhile pT) with
              | none => rw [e2] at h; cases h
              | some l2 =>
                rw [e2, Option.bind_some] at h
                have s2 := (skp_suf _ _ _ (Nat.le_refl _) e2).trans (List.dropWhile_suffix _)
                have n2 := (skp_suf _ _ _ (Nat.le_refl _) e2).length_le
                have n2' := tw_len hne
                cases l2 with
                | nil => exact non h
                | cons e l2 =>
                  rw [lc_cons] at h
                  split at h
                  · cases h
                  · cases e3 : skp l2 with
                    | none => rw [e3] at h; cases h
                    | some l3 =>
                      rw [e3, Option.bind_some] at h
                      have s3 := skp_suf _ _ _ (Nat.le_refl _) e3
                      have n3 := s3.length_le
                      cases e4 : wor l3 with
                      | none => rw [e4] at h; cases h
                      | some p =>
                        obtain ⟨v, l4⟩ := p
                        rw [e4, Option.bind_some] at h
                        dsimp only at h
                        obtain ⟨s4, n4, m4⟩ := wor_suf e4
                        cases e5 : skp l4 with
                        | none => rw [e5] at h; cases h
                        | some l5 =>
                          rw [e5, Option.bind_some] at h
                          have s5 := skp_suf _ _ _ (Nat.le_refl _) e5
                          have n5 := s5.length_le
                          have t3 : l3 <:+ d :: l := (s3.trans (List.suffix_cons _ _)).trans s2
                          obtain ⟨a, b⟩ := prs_ok n _ l5 ps (fun p hp => by
                            rcases List.mem_append.mp hp with z | z
                            · exact ha p z
                            · rw [List.mem_singleton.mp z]
                              exact ⟨fun c hc => m1 c ((List.takeWhile_sublist _).subset hc), fun c hc => m1 c (t3.subset (m4 c hc))⟩)
                            (fun c hc => m1 c (t3.subset (s4.subset (s5.subset hc)))) h
                          refine ⟨a, ?_⟩
                          rw [List.length_append, List.length_singleton] at b
                          simp only [List.length_cons] at n1 n2 n2' n3 n4 n5 ⊢
                          omega
set_option backward.eqns.nonrecursive false in
noncomputable def addF (acc : List (Str × List UInt8)) (p : List UInt8 × List UInt8) : List (Str × List UInt8) := if acc.any (·.1 == small_ p.1) then acc else acc ++ [(small_ p.1, p.2)]
noncomputable def fst (ps : Prs) : List (Str × List UInt8) := ps.foldl addF []
theorem fst_app {ps : Prs} {p : List UInt8 × List UInt8} : fst (ps ++ [p]) = addF (fst ps) p := by
  unfold fst; rw [List.foldl_append]; rfl
theorem look_map {α β : Type} {f : α → β} {k : Str} : ∀ l : List (Str × α), (l.map fun e => (e.1, f e.2)).lookup k = (l.lookup k).map f
  | [] => rfl
  | (x, u) :: r => by
    rw [List.map_cons, List.lookup_cons, List.lookup_cons, look_map r]
    cases k == x <;> rfl
theorem look_any {α : Type} {k : Str} : ∀ l : List (Str × α), (l.lookup k).isSome = l.any (·.1 == k)
  | [] => rfl
  | (x, u) :: r => by
    rw [List.lookup_cons, List.any_cons, ← look_any r]
    have : (x == k) = (k == x) := by rw [Bool.eq_iff_iff, beq_iff_eq, beq_iff_eq]; exact ⟨Eq.symm, Eq.symm⟩
    rw [this]
    cases k == x <;> rfl
theorem dput_new {k : Str} {v : AV} : ∀ l : List (Str × AV), l.any (·.1 == k) = false → dput k v l = l ++ [(k, v)]
  | [], _ => rfl
  | (x, u) :: r, h => by
    rw [List.any_cons, Bool.or_eq_false_iff] at h
    unfold dput
    rw [if_neg (by have := h.1; simpa using this), dput_new r h.2]; rfl
theorem fst_len (ps : Prs) : (fst ps).length ≤ ps.length := by
  have : ∀ (l : Prs) acc, (l.foldl addF acc).length ≤ acc.length + l.length := by
    intro l
    induction l with
    | nil => intro acc; simp
    | cons p r ih =>
      intro acc
      have h1 := ih (addF acc p)
      have h2 : (addF acc p).length ≤ acc.length + 1 := by unfold addF; split <;> simp
      rw [List.foldl_cons, List.length_cons]; omega
  have := this ps []
  simpa [fst] using this
theorem fst_mem {P : List UInt8 → Prop} (ps : Prs) (h : ∀ p ∈ ps, P p.2) : ∀ e ∈ fst ps, P e.2 := by
  have : ∀ (l : Prs) acc, (∀ p ∈ l, P p.2) → (∀ e ∈ acc, P e.2) → ∀ e ∈ l.foldl addF acc, P e.2 := by
    intro l
    induction l with
    | nil => intro acc _ h; exact h
    | cons p r ih =>
      intro acc h1 h2
      rw [List.foldl_cons]
      refine ih _ (fun q hq => h1 q (.tail _ hq)) fun e he => ?_
      unfold addF at he
      split at he
      · exact h2 e he
      · rcases List.mem_append.mp he with z | z
        · exact h2 e z
        · rw [List.mem_singleton.mp z]; exact h1 p (.head _)
  exact this ps [] h (by simp)
set_option tactic.hygienic true in
theorem fst_nodup (ps : Prs) : ((fst ps).map (·.1)).Nodup := by
  have : ∀ (l : Prs) acc, (acc.map (·.1)).Nodup → ((l.foldl addF acc).map (·.1)).Nodup := by
    intro l
    induction l with
    | nil => intro acc h; exact h
    | cons p r ih =>
      intro acc h
      rw [List.foldl_cons]
      refine ih _ ?_
      unfold addF
      split
      · exact h
      · rename_i q
        rw [List.map_append, List.nodup_append]
        refine ⟨h, by simp, fun x hx y hy => ?_⟩
        have hy : y = small_ p.1 := by simpa using hy
        rintro rfl
        obtain ⟨e, he, rfl⟩ := List.mem_map.mp hx
        exact q (List.any_eq_true.mpr ⟨e, he, by simp [hy]⟩)
  exact this ps [] (by simp)
end Mine
end

noncomputable section
open PySem PySem.W PyProof.Rows PySem.Calls PySem.Spec
set_option maxRecDepth 100000
namespace Mine
theorem forQ_inv {α : Type} {body : AV → St → (St → Prop) → Prop} {chk : Hp → Prop} {N : St → Prop} (f : α → AV) (I : List α → St → Prop) (xs : List α) {st : St} (h0 : I [] st)
    (step : ∀ done x rest st (K : St → Prop), xs = done ++ x :: rest → I done st → (∀ st', I (done ++ [x]) st' → K st') → body (f x) st K) (hc : ∀ done st, I done st → chk st.hp) (fin : ∀ st, I xs st → N st) : forQ body chk N (xs.map f) st := by
  have key : ∀ (rest done : List α) st, xs = done ++ rest → I done st → forQ body chk N (rest.map f) st := by
    intro rest
    induction rest with
    | nil => intro done st e h; rw [List.append_nil] at e; subst e; exact fin st h
    | cons x r ih =>
      intro done st e h
      exact step done x r st _ e h fun st' h' => ⟨hc _ _ h', ih (done ++ [x]) st' (by rw [e, List.append_assoc]; rfl) h'⟩
  exact key xs [] st rfl h0
section
variable {k : Nat} {hd : Bool} {hp H : Hp} {Q : AV → Hp → Prop} {X : Nat → Hp → Prop} {w : List UInt8} {a j i : Nat}
theorem no_star {w : List UInt8} (h : ∀ c ∈ w, okc c) : Txt.find (small_ w) "*" = -1 := by
  have e : ("*" : Str) = ⟨#[42]⟩ := rfl
  have h0 : (Builtin.Str.occurrences (small_ w) ⟨#[42]⟩ 0 (small_ w).length 1).isEmpty = true := by
    rw [PyProof.Rows.empty_one, Bool.not_eq_true', decide_eq_false_iff_not]
    intro hm
    have hm : 42 ∈ w.map fun c => lowN c.toNat := by simpa [small_, sOf] using hm
    obtain ⟨c, hc, he⟩ := List.mem_map.mp hm
    have := (h c hc).2.1
    unfold lowN at he
    split at he <;> omega
  unfold Txt.find
  rw [e, List.isEmpty_iff.mp h0]
theorem c_385 (h : ∀ c ∈ w, okc c) : iterF tab (k + 1) hd 385 [.str (small_ w)] hp Q X = Q .none hp := by
  rw [at_385, b_part_of]
  simp_arith [↓wrs0, ↓wrs1, no_star h]
noncomputable def pl (f : List UInt8 → AV) (ps : Prs) : List (Str × AV) := (fst ps).map fun e => (e.1, f e.2)
theorem pl_in {f : List UInt8 → AV} {ps : Prs} {s : Str} : ((pl f ps).lookup s).isSome = (fst ps).any (·.1 == s) := by
  unfold pl
  rw [look_map, Option.isSome_map, look_any]
set_option tactic.hygienic true in
theorem pl_app {f : List UInt8 → AV} {ps : Prs} {p : List UInt8 × List UInt8} : pl f (ps ++ [p]) = if (fst ps).any (·.1 == small_ p.1) = true then pl f ps else dput (small_ p.1) (f p.2) (pl f ps) := by
  unfold pl
  rw [fst_app, addF]
  split
  · rfl
  · rename_i h
    rw [dput_new, List.map_append]
    · rfl
    · rw [List.any_map]
      exact (Bool.not_eq_true _).mp h
theorem pl_len {f : List UInt8 → AV} {ps : Prs} : (pl f ps).length ≤ ps.length := by unfold pl; rw [List.length_map]; exact fst_len ps
theorem Kp.set {H H' : Hp} {j : Nat} {x : AO} (a : Kp H H') (h : H.length ≤ j) : Kp H (H'.set j x) := fun i y e => by
  have := (List.getElem?_eq_some_iff.mp e).1
  rw [List.getElem?_set_ne (by omega)]; exact a i y e
theorem d_416 {ps : Prs} (hi : H[i]? = some (.list (ps.map pairV))) (hl : ps.length ≤ 1000) (ho : ∀ p ∈ ps, okp p ∧ p.2.length ≤ 1000) (h : ∀ H' j n, Kp H H' → H'[j]? = some (.dict (pl (fun w => .str (gs w)) ps) n) → Q (.obj j) H') : iterF tab (k + 6) false 416 [.obj i] H Q X := by
  rw [at_416, b_params_of]
  (repeat (simp_all_arith; simp_arith []))
  intro n1
  (repeat (simp_all_arith; simp_arith []))
  intro n2
  have hi' : (H ++ [AO.dict [] n1] ++ [AO.dict [] n2])[i]? = some (.list (ps.map pairV)) := getL (getL hi)
  have il := (List.getElem?_eq_some_iff.mp hi).1
  first | rw [wpS_for2] | (simp_all_arith; rw [wpS_for2])
  refine ⟨rfl, ?_⟩
  simp only [↓wq2, ↓finQ, ↓iterQ, ↓onO, hi', List.getElem?_cons_zero, List.getElem?_cons_succ]
  refine forQ_inv pairV (fun done st => ∃ H' v3 v4 v5 n, st = ⟨[some (.obj i), some (.obj H.length), some (.obj (H ++ [AO.dict [] n1]).length), v3, v4, v5, none, none, none], H'⟩ ∧ Kp H H' ∧ H'[H.length]? = some (.dict (pl (fun w => .str (gs w)) done) n) ∧
    H'[(H ++ [AO.dict [] n1]).length]? = some (.dict [] n2)) ps ⟨_, none, none, none, n1, rfl, Kp.app.trans Kp.app, getL getC, getC⟩ ?_ ?_ ?_
  · rintro done x rest _ K e ⟨H', v3, v4, v5, n, rfl, k1, k2, k3⟩ hK
    obtain ⟨⟨o1, o2⟩, o3⟩ := ho x (by rw [e]; simp)
    show wpSs _ _ _ _ _ _ _ _
    (repeat (simp_all_arith; simp_arith [↓c_385 o1, k2, pl_in]))
    cases ea : (fst done).any (·.1 == small_ x.1) with
    | true =>
      simp only [Bool.not_true, ifB_ff]
      exact hK _ ⟨H', _, _, _, n, rfl, k1, by rw [pl_app, if_pos ea]; exact k2, k3⟩
    | false =>
      simp only [Bool.not_false, ifB_tt]
      refine c_240 (fun c hc => (o2 c hc).2.2) o3 fun g => ?_
      have k2' := getL (g := g) k2
      have k3' := getL (g := g) k3
      have ne : (H ++ [AO.dict [] n1]).length ≠ H.length := by simp
      simp_arith [k2']
      refine ⟨?_, fun n' => hK _ ⟨_, _, _, _, n', rfl, (k1.trans Kp.app).set (Nat.le_refl _), ?_, ?_⟩⟩
      · have h1 := pl_len (f := fun w => .str (gs w)) (ps := done)
        have : done.length ≤ ps.length := by rw [e]; simp
        omega
      · rw [List.getElem?_set_self (List.getElem?_eq_some_iff.mp k2').1, pl_app, if_neg (by simp [ea])]
      · rw [List.getElem?_set_ne (Ne.symm ne)]; exact k3'
  · rintro done _ ⟨H', v3, v4, v5, n, rfl, k1, k2, k3⟩
    exact k1 _ _ hi
  · rintro _ ⟨H', v3, v4, v5, n, rfl, k1, k2, k3⟩
    first | rw [wpS_for1] | (simp_all_arith; rw [wpS_for1])
    refine ⟨rfl, ?_⟩
    simp only [↓wq2, ↓finQ, ↓iterQ, ↓onO, k3, List.map_nil, List.getElem?_cons_zero, List.getElem?_cons_succ, true_and]
    simp_arith [↓forQ_nil, ahead']
    (repeat (simp_all_arith; simp_arith []))
    exact h _ _ _ k1 k2
end
end Mine
end

noncomputable section
open PySem PySem.W PyProof.Rows PySem.Calls PySem.Spec
set_option maxRecDepth 100000
namespace Mine
set_option backward.eqns.nonrecursive false in
noncomputable def ltx (w : List UInt8) : Option (List Nat) := if w = [233] then some [233] else if w = [195, 169] then some [233] else if w.any (fun c => decide (127 < c.toNat)) then none else some (w.map (·.toNat))
set_option backward.eqns.nonrecursive false in
noncomputable def ltV (w : List UInt8) : AV := match ltx w with
  | none => .none
  | some l => .str (sOf l)
theorem utf_ascii : ∀ w : List UInt8, (∀ c ∈ w, c.toNat < 128) → utf w = some (w.map (·.toNat))
  | [], _ => rfl
  | c :: r, h => by
    rw [utf_cons, if_pos (h c (.head _)), utf_ascii r fun d hd => h d (.tail _ hd)]; rfl
set_option tactic.hygienic true in
theorem gs_lt {w : List UInt8} {l : List Nat} (h : ltx w = some l) : gs w = sOf l := by
  unfold ltx at h
  split at h
  · rename_i e; cases h; rw [e]; rfl
  · split at h
    · rename_i e; cases h; rw [e]; rfl
    · split at h
      · cases h
      · rename_i e
        cases h
        unfold gs
        rw [utf_ascii w fun c hc => by
          apply Decidable.byContradiction
          intro q
          exact e (List.any_eq_true.mpr ⟨c, hc, by simp; omega⟩)]
theorem pyL_mk {x : AV} {r : List AV} {a : PyData} {b : List PyData} (h1 : pyV x = some a) (h2 : pyL r = some b) : pyL (x :: r) = some (a :: b) := by
  show (match pyV x, pyL r with
    | some a, some b => some (a :: b)
    | _, _ => none) = _
  rw [h1, h2]
theorem pyL_strs : ∀ l : List Str, pyL (l.map .str) = some (l.map .str)
  | [] => rfl
  | s :: r => pyL_mk rfl (pyL_strs r)
theorem lay_strs : ∀ l : List Str, (∀ s ∈ l, PyData.strOk s = true) → PyData.canLayAll0 (l.map .str) = true
  | [], _ => rfl
  | s :: r, h => by
    rw [List.map_cons, PyData.canLayAll0, PyData.canLay0, h s (.head _), lay_strs r fun t ht => h t (.tail _ ht)]; rfl
theorem dep_strs : ∀ l : List Str, PyData.depthAll (l.map .str) ≤ 20
  | [] => by simp [PyData.depthAll]
  | s :: r => by
    have := dep_strs r
    rw [List.map_cons, PyData.depthAll, PyData.depth]; omega
theorem eqv_strs : ∀ l m : List Str, PyData.eqvAll (l.map .str) (m.map .str) = (l == m)
  | [], [] => rfl
  | [], _ :: _ => rfl
  | _ :: _, [] => rfl
  | s :: r, t :: u => by
    rw [List.map_cons, List.map_cons, PyData.eqvAll, PyData.eqv, eqv_strs r u]; rfl
theorem sOf_ok {l : List Nat} (h : ∀ n ∈ l, n < 0x110000) : PyData.strOk (sOf l) = true := by
  unfold PyData.strOk sOf
  simpa using h
theorem small_ok (w : List UInt8) : PyData.strOk (small_ w) = true := sOf_ok fun n hn => by
  obtain ⟨c, _, rfl⟩ := List.mem_map.mp hn
  have := lowN_lt c.toNat_lt
  omega
theorem fst_ok (ps : Prs) : ∀ s ∈ (fst ps).map (·.1), PyData.strOk s = true := by
  have : ∀ (l : Prs) acc, (∀ e ∈ acc, PyData.strOk e.1 = true) → ∀ e ∈ l.foldl addF acc, PyData.strOk e.1 = true := by
    intro l
    induction l with
    | nil => intro acc h; exact h
    | cons p r ih =>
      intro acc h
      rw [List.foldl_cons]
      refine ih _ fun e he => ?_
      unfold addF at he
      split at he
      · exact h e he
      · rcases List.mem_append.mp he with z | z
        · exact h e z
        · rw [List.mem_singleton.mp z]; exact small_ok _
  intro s hs
  obtain ⟨e, he, rfl⟩ := List.mem_map.mp hs
  exact this ps [] (by simp) e he
theorem comQ_none {cond : AV → St → (Bool → St → Prop) → Prop} {elt : AV → St → QV → Prop} {chk : Hp → Prop} {K : List AV → St → Prop} (I : Hp → Prop) : ∀ (l : List AV) (st : St), I st.hp →
    (∀ v ∈ l, ∀ st' K', I st'.hp → (∀ st'', I st''.hp → K' false st'') → cond v st' K') → (∀ h, I h → chk h) → (∀ st', I st'.hp → K [] st') → comQ cond elt chk K l [] st
  | [], st, h, _, _, fin => fin st h
  | v :: r, st, h, step, hc, fin => by
    unfold comQ
    refine step v (.head _) st _ h fun st'' h'' => ?_
    rw [ifB_ff]
    exact ⟨hc _ h'', comQ_none I r st'' h'' (fun u hu => step u (.tail _ hu)) hc fin⟩
theorem look_mem {α : Type} : ∀ {l : List (Str × α)} {e : Str × α}, (l.map (·.1)).Nodup → e ∈ l → l.lookup e.1 = some e.2 := fun hn he => by
  obtain ⟨i, hi⟩ := List.getElem?_of_mem he
  exact lookup_of_get hn hi
set_option backward.eqns.nonrecursive false in
noncomputable def big (v : AV) : Bool := match v with
  | .int i => decide (127 < i)
  | _ => false
theorem big_empty : ∀ w : List UInt8, (List.filter big (w.map fun c => AV.int (c.toNat : Int))).isEmpty = !w.any (fun c => decide (127 < c.toNat))
  | [] => rfl
  | c :: r => by
    rw [List.map_cons, List.filter_cons, List.any_cons]
    have e : big (.int (c.toNat : Int)) = decide (127 < c.toNat) := by
      unfold big
      rw [Bool.eq_iff_iff, decide_eq_true_iff, decide_eq_true_iff]; omega
    rw [e]
    cases decide (127 < c.toNat) with
    | true => rfl
    | false => rw [Bool.false_or, ← big_empty r]; rfl
section
variable {k : Nat} {hd : Bool} {hp H : Hp} {Q : AV → Hp → Prop} {X : Nat → Hp → Prop} {w : List UInt8} {a j i : Nat}
theorem d_517 (hw : w.length ≤ 1000) (h : ∀ g, Q (ltV w) (H ++ g)) : iterF tab (k + 1) false 517 [.bytes w] H Q X := by
  rw [at_517, b_l_text]
  by_cases e1 : w = [233]
  · have q : (w == [233]) = true := by simp [e1]
    have ev : ltV w = .str (sOf [233]) := by simp [ltV, ltx, e1]
    (repeat (simp_all_arith; simp_arith [q]))
    have := h []
    rw [List.append_nil, ev] at this
    exact this
  by_cases e2 : w = [195, 169]
  · have q : (w == [233]) = false := by simpa using e1
    have q2 : (w == [195, 169]) = true := by simp [e2]
    have ev : ltV w = .str (sOf [233]) := by simp [ltV, ltx, e1, e2]
    (repeat (simp_all_arith; simp_arith [q, q2]))
    have := h []
    rw [List.append_nil, ev] at this
    exact this
  have q : (w == [233]) = false := by simpa using e1
  have q2 : (w == [195, 169]) = false := by simpa using e2
  (simp_all_arith; simp_arith [q])
  (simp_all_arith; simp_arith [q2])
  simp_all_arith
  simp only [↓wS8, ↓wq30, ↓wq2, ↓finQ, ↓iterQ, List.getElem?_cons_zero, true_and]
  rw [comQ_filter (H := H) big (fun v => v) (fun v => [some v, some (.bytes w)]) (fun v => [some v, some (.bytes w)]) trivial (fun _ _ _ e => by rw [e]) _ _ _ rfl (by
    intro v hv st' e K'
    obtain ⟨c, _, rfl⟩ := List.mem_map.mp hv
    rw [e]; rfl) (by
    intro v hv _ st' e K'
    obtain ⟨c, _, rfl⟩ := List.mem_map.mp hv
    rw [e])]
  simp_arith [List.nil_append, List.map_id', getC]
  rw [big_empty]
  cases ea : w.any (fun c => decide (127 < c.toNat)) with
  | true =>
    simp only [Bool.not_true, Bool.not_false, ifB_tt]
    have ev : ltV w = .none := by simp only [ltV, ltx, e1, e2, ea, if_true, if_false]
    have := h [.list (List.filter big (List.map (fun c : UInt8 => AV.int (c.toNat : Int)) w))]
    rw [ev] at this
    exact this
  | false =>
    have ev : ltV w = .str (sOf (w.map (·.toNat))) := by simp only [ltV, ltx, e1, e2, ea, if_false, Bool.false_eq_true]
    simp only [Bool.not_true, Bool.not_false, ifB_ff]
    rw [ev] at h
    generalize List.filter big (List.map (fun c : UInt8 => AV.int (c.toNat : Int)) w) = xs
    simp_all_arith
    simp only [↓wS9, ↓wq26, ↓wq1, ↓wq29, ↓wq2, kv3, ↓finQ, ↓isSB, ↓iterQ, List.getElem?_cons_zero, true_and]
    rw [comQ_map (H := H ++ [AO.list xs]) (fun v => .str (signOf (asI v))) (fun v => [some v, some (.bytes w)]) trivial (fun _ _ _ e => by rw [e]) _ _ _ rfl (by
      intro v hv st' e K'
      obtain ⟨c, _, rfl⟩ := List.mem_map.mp hv
      have := c.toNat_lt
      rw [e]
      exact propext ⟨fun h => h.2.2, fun h => ⟨by omega, by omega, h⟩⟩)]
    simp only [↓new, ↓finQ, List.nil_append, List.map_map, Function.comp_def, asI_i]
    have e5 : (w.map fun c : UInt8 => AV.str (signOf (c.toNat : Int))) = sg1 (w.map (·.toNat)) := by
      rw [sg1, List.map_map]; rfl
    rw [e5]
    refine sg_join (by rw [List.length_map]; exact hw) ?_ getC
    rw [List.append_assoc]
    exact h _
end
end Mine
end

noncomputable section
open PySem PySem.W PyProof.Rows PySem.Calls PySem.Spec
set_option maxRecDepth 100000
namespace Mine
section
variable {k : Nat} {hd : Bool} {hp H : Hp} {Q : AV → Hp → Prop} {X : Nat → Hp → Prop} {w : List UInt8} {a j i : Nat}
noncomputable def nms (ps : Prs) : List Str := sortStrs ((fst ps).map (·.1))
theorem nms_ok (ps : Prs) : ∀ s ∈ nms ps, PyData.strOk s = true := fun s hs => fst_ok ps s (by
  unfold nms sortStrs at hs
  exact List.mem_mergeSort.mp hs)
theorem pl_keys {f : List UInt8 → AV} {ps : Prs} : (pl f ps).map (·.1) = (fst ps).map (·.1) := by unfold pl; rw [List.map_map]; rfl
theorem eq_self_strs {l : List Str} {i j : Nat} {P : Bool → Prop} (h1 : H[i]? = some (.list (l.map .str))) (h2 : H[j]? = some (.list (l.map .str))) (hl : ∀ s ∈ l, PyData.strOk s = true) (h : P true) : eqQ (.obj i) (.obj j) H P := by
  have e : (l == l) = true := by simp
  simp only [eqQ, isO, atL, eqL, h1, h2, pyL_strs, onO]
  rw [eqv_strs, e]
  exact ⟨lay_strs l hl, lay_strs l hl, dep_strs l, h⟩
theorem pl_look {f : List UInt8 → AV} {ps : Prs} {e : Str × List UInt8} (h : e ∈ fst ps) : (pl f ps).lookup e.1 = some (f e.2) := by
  unfold pl
  rw [look_map, look_mem (fst_nodup ps) h]; rfl
theorem d_534 {ps : Prs} {n n' : Nat} (hi : H[i]? = some (.dict (pl (fun w => .str (gs w)) ps) n)) (hj : H[j]? = some (.dict (pl .bytes ps) n')) (hl : ps.length < 60) (ho : ∀ p ∈ ps, p.2.length ≤ 1000) (h : ∀ H', Kp H H' → Q (.bool true) H') :
    iterF tab (k + 2) false 534 [.obj i, .obj j] H Q X := by
  (rw [at_534, b_l_alike]; simp_all_arith)
  have l1 := pl_len (f := fun w => .str (gs w)) (ps := ps)
  have l2 := pl_len (f := .bytes) (ps := ps)
  have k1 : ∀ g, (H ++ g)[j]? = some (.dict (pl .bytes ps) n') := fun g => getL hj
  simp -dsimp only [↓wS0, ↓wS1, ↓wS2, ↓wS3, ↓wS4, ↓wS5, ↓wS6, ↓wS7, ↓wS8, ↓wS9, ↓wS10, ↓wS11, ↓wS12, ↓wq0, ↓wq1, ↓wq2, ↓wq3, ↓wq4, ↓wq5, ↓wq6, ↓wq7, ↓wq8, ↓wq9, ↓wq10, ↓wq11, ↓wq12, ↓wq13, ↓wq14, ↓wq15, ↓wq16, ↓wq17, ↓wq18, ↓wq19, ↓wq20, ↓wq21, ↓wh22, ↓wh23, ↓hold_, ↓wq24, ↓wq25, ↓wq26, ↓wq27, ↓wq28, ↓wq29, ↓wq30, ↓wqs0, ↓wqs1, bltQ, blt1, List.getElem?_cons_zero, List.getElem?_cons_succ, finQ, ahead, onO, isI, isSt, isO, isY, isN, isT, atL, atD, hi, new, k1, pl_keys, cmpQ]
  refine ⟨by omega, by omega, ?_⟩
  refine eq_self_strs (l := nms ps) (getL getC) getC (nms_ok ps) ?_
  simp only [isB, Bool.not_true, ifB_ff, wpSs_nil]
  generalize e : H ++ [AO.list (List.map AV.str (sortStrs (List.map (fun x => x.fst) (fst ps))))] ++ [AO.list (List.map AV.str (sortStrs (List.map (fun x => x.fst) (fst ps))))] = H1
  have kp1 : Kp H H1 := by rw [← e]; exact Kp.app.trans Kp.app
  have hj1 := kp1 _ _ hj
  simp_all_arith
  simp only [↓wS9, ↓wq11, ↓wq30, ↓wq2, ↓finQ, ↓iterQ, ↓onO, hj1, List.getElem?_cons_zero, List.getElem?_cons_succ, true_and]
  refine comQ_none (Kp H1) _ _ Kp.refl ?_ (fun h' k => k _ _ hj1) ?_
  · intro v hv st' K' k1 hK
    obtain ⟨d, hd, rfl⟩ := List.mem_map.mp hv
    obtain ⟨e, he, rfl⟩ := List.mem_map.mp hd
    have ha := pl_look (f := .bytes) he
    have hb := pl_look (f := fun w => .str (gs w)) he
    have hw := fst_mem (P := fun w => w.length ≤ 1000) ps ho e he
    simp_arith [k1 _ _ hj1, ha]
    refine d_517 hw fun g => ?_
    have k2 := k1.trans (Kp.app (g := g))
    unfold ltV
    cases el : ltx e.2 with
    | none =>
      simp_arith [Bool.not_true]
      exact hK ⟨_, _⟩ k2
    | some l =>
      simp_arith [Bool.not_false, k2 _ _ (kp1 _ _ hi), hb, k2 _ _ hj1, ha]
      refine d_517 hw fun g' => ?_
      have k3 := k2.trans (Kp.app (g := g'))
      unfold ltV
      rw [el]
      simp_arith [gs_lt el, Bool.not_true]
      exact hK ⟨_, _⟩ k3
  · intro st' k1
    simp only [↓wq14, ↓wqs0, ↓new, ↓finQ, ↓cmpQ]
    refine eq_self_strs (l := []) (getL getC) getC (by simp) ?_
    exact h _ ((kp1.trans k1).trans (Kp.app.trans Kp.app))
end
end Mine
end

noncomputable section
open PySem PySem.W PyProof.Rows PySem.Calls PySem.Spec
set_option maxRecDepth 100000
namespace Mine
structure Gd (o : List UInt8) : Prop where
  g : Go o
  n : o.length < 240
  c : ∀ c ∈ o, okc c
noncomputable def kd (t s : Str) (j : Nat) : AO := .inst 313 [(3, .str t), (4, .str s), (5, .obj j)]
set_option backward.eqns.nonrecursive false in
noncomputable def rdp (l : List UInt8) : Option (List UInt8 × Prs) := if l.takeWhile pT = [] then none else ((skp (l.dropWhile pT)).bind (prs 1001 [])).map fun ps => (l.takeWhile pT, ps)
noncomputable def rd1 (o : List UInt8) : Option (List UInt8 × Prs) := (skp o).bind rdp
set_option backward.eqns.nonrecursive false in
noncomputable def rdq (w : List UInt8) : List UInt8 → Option (List UInt8 × List UInt8 × Prs)
  | c :: r => if c.toNat = 47 then ((skp r).bind rdp).map fun p => (w, p.1, p.2) else none
  | [] => none
set_option backward.eqns.nonrecursive false in
noncomputable def rd2 (o : List UInt8) : Option (List UInt8 × List UInt8 × Prs) := (skp o).bind fun l => if l.takeWhile pT = [] then none else (skp (l.dropWhile pT)).bind (rdq (l.takeWhile pT))
section
variable {k : Nat} {hd : Bool} {hp H : Hp} {Q : AV → Hp → Prop} {X : Nat → Hp → Prop} {o w : List UInt8} {a j i : Nat} {t s : Str} {Φ : Fn}
theorem kd_3 {P : AV → Prop} (h : H[j]? = some (kd t s i)) : attQ (.obj j) 3 H P = P (.str t) := att_at h rfl
theorem kd_4 {P : AV → Prop} (h : H[j]? = some (kd t s i)) : attQ (.obj j) 4 H P = P (.str s) := att_at h rfl
theorem kd_5 {P : AV → Prop} (h : H[j]? = some (kd t s i)) : attQ (.obj j) 5 H P = P (.obj i) := att_at h rfl
theorem kd_15 {P : Nat → Prop} (h : H[j]? = some (kd t s i)) : metQ Φ hd (.obj j) 15 H P = P 289 := met_at h rfl rfl
theorem kd_16 {P : Nat → Prop} (h : H[j]? = some (kd t s i)) : metQ Φ hd (.obj j) 16 H P = P 296 := met_at h rfl rfl
theorem kd_17 {P : Nat → Prop} (h : H[j]? = some (kd t s i)) : metQ Φ hd (.obj j) 17 H P = P 303 := met_at h rfl rfl
theorem kd_18 {P : Nat → Prop} (h : H[j]? = some (kd t s i)) : metQ Φ hd (.obj j) 18 H P = P 310 := met_at h rfl rfl
theorem c_313 : iterF tab (k + 2) hd 313 [.str t, .str s, .obj j] H Q X = Q (.obj H.length) (H ++ [kd t s j]) := by
  rw [at_313, at_284, b_Kind_init]
  simp_arith [↓wrs0, ↓wrs1, attQ, setAttQ, atI, getC, setC, List.length_nil, List.length_cons]
  exact propext ⟨fun h => h.2.2, fun h => ⟨of_decide_eq_true rfl, of_decide_eq_true rfl, h⟩⟩
theorem c_296 (h : H[j]? = some (kd t s i)) : iterF tab (k + 1) hd 296 [.obj j] H Q X = Q (.bool (t == "multipart")) H := by
  rw [at_296, b_Kind_is_multi]
  simp_arith [↓wrs0, ↓wrs1, ↓kd_3 h]
theorem c_310 (h : H[j]? = some (kd t s i)) : iterF tab (k + 1) hd 310 [.obj j] H Q X = Q (.bool (t == "text")) H := by
  rw [at_310, b_Kind_is_text]
  simp_arith [↓wrs0, ↓wrs1, ↓kd_3 h]
theorem c_303 (h : H[j]? = some (kd t s i)) : iterF tab (k + 1) hd 303 [.obj j] H Q X = Q (.bool (t == "message" && s == "rfc822")) H := by
  rw [at_303, b_Kind_is_letter]
  cases e : t == "message" <;> simp_arith [↓wrs0, ↓wrs1, ↓kd_3 h, ↓kd_4 h, e, Bool.true_and, Bool.false_and]
noncomputable def plD (n : Nat) : AO := .dict [("charset", .str "us-ascii")] n
theorem d_324 (h : ∀ n, Q (.obj (H ++ [plD n]).length) (H ++ [plD n] ++ [kd "text" "plain" H.length])) : iterF tab (k + 3) hd 324 [] H Q X := by
  rw [at_324, b_plain_kind]
  (repeat (simp_all_arith; simp_arith [c_313]))
  exact ⟨by decide, by decide, h⟩
noncomputable def toldV (t s : Str) : AV := .tup [.str t, .str s, .tup [.tup [.str "charset", .str "us-ascii"]]]
theorem d_289 {n : Nat} (h : H[j]? = some (kd t s i)) (h2 : H[i]? = some (plD n)) (hq : ∀ g, Q (toldV t s) (H ++ g)) : iterF tab (k + 1) hd 289 [.obj j] H Q X := by
  rw [at_289, b_Kind_told]
  unfold plD at h2
  simp_all_arith
  simp only [↓wS9, ↓wq13, ↓wqs0, ↓wqs1, ↓wq21, ↓wq2, ↓wq24, ↓wq29, ↓finQ, ↓bltQ, ↓blt1, ↓isO, ↓atD, ↓new, ↓iterQ, ↓onO, List.getElem?_cons_zero, true_and, ↓kd_3 h, ↓kd_4 h, ↓kd_5 h, h2, getC]
  refine ⟨by decide, ?_⟩
  have es : sortStrs (List.map (fun x : Str × AV => x.1) [("charset", AV.str "us-ascii")]) = [("charset" : Str)] := List.mergeSort_singleton _
  rw [es]
  have h3 := getL (g := [AO.list [AV.str "charset"]]) h
  have h4 := getL (g := [AO.list [AV.str "charset"]]) h2
  simp only [List.map_cons, List.map_nil]
  simp_arith [↓comQ_cons, ↓comQ_nil, ↓kd_5 h3, h4, getC, List.nil_append]
  rw [List.append_assoc]
  exact hq _
theorem rdq_cons {c : UInt8} {r : List UInt8} : rdq w (c :: r) = if c.toNat = 47 then ((skp r).bind rdp).map fun p => (w, p.1, p.2) else none := rfl
theorem d_423 (G : Gd o) (h : match rd1 o with
    | none => ∀ H', Kp H H' → X 59 H'
    | some (w, ps) => ∀ H' j n, (∀ p ∈ ps, p.2.length ≤ 1000) → Kp H H' → H'[j]? = some (.dict (pl (fun w => .str (gs w)) ps) n) → Q (.tup [.str (small_ w), .obj j]) H') : iterF tab (k + 7) false 423 [.bytes o] H Q X := by
  rw [at_423, b_read_value]
  (repeat (simp_all_arith; simp_arith [c_155]))
  have ho := G.n
  refine d_338 getC (Nat.zero_le _) G.g ?_
  rw [List.drop_zero]
  unfold rd1 at h
  cases e1 : skp o with
  | none => rw [e1] at h; exact fun H' f => h _ f.kpn
  | some l1 =>
  rw [e1, Option.bind_some] at h
  intro b1 H1 eb1 hb1 f1 g1
  (repeat (simp_all_arith; simp_arith []))
  refine d_345 g1 hb1 ?_
  unfold tkR
  rw [eb1]
  unfold rdp at h
  by_cases tw : l1.takeWhile pT = []
  · rw [if_pos tw] at h ⊢
    exact fun H' f => h _ (f1.trans f).kpn
  rw [if_neg tw] at h ⊢
  intro b2 H2 eb2 hb2 f2 g2
  have s1 := skp_suf _ _ _ (Nat.le_refl _) e1
  have tl : (l1.takeWhile pT).length ≤ 1000 := by
    have := (List.takeWhile_sublist (l := l1) pT).length_le
    have := s1.length_le
    omega
  refine c_364 tl fun g => ?_
  (repeat (simp_all_arith; simp_arith []))
  refine d_371 (getL g2) hb2 G.g ?_
  rw [eb2]
  have f3 := (f1.trans f2).trans (Fr.app (g := g))
  cases e2 : (skp (l1.dropWhile pT)).bind (prs 1001 []) with
  | none => rw [e2] at h; exact fun H' f => h _ (f3.trans f).kpn
  | some ps =>
  rw [e2, Option.map_some] at h
  obtain ⟨l2, e3, e4⟩ := Option.bind_eq_some_iff.mp e2
  have s2 := ((skp_suf _ _ _ (Nat.le_refl _) e3).trans (List.dropWhile_suffix _)).trans s1
  obtain ⟨o1, o2⟩ := prs_ok _ _ _ _ (by simp) (fun c hc => G.c c (s2.subset hc)) e4
  intro H3 i n3 o3 f4 g3
  refine d_416 g3 n3 (fun p hp => ⟨o1 p hp, (o3 p hp).2⟩) fun H4 j n k4 g4 => ?_
  exact h _ _ _ (fun p hp => (o3 p hp).2) ((f3.trans f4).kpn.trans k4) g4
theorem prs_len {l1 : List UInt8} {ps : Prs} {r : List UInt8} (G : Gd o) (s1 : l1 <:+ o) (e : (skp l1).bind (prs 1001 []) = some ps) : ps.length < 60 := by
  obtain ⟨l2, e3, e4⟩ := Option.bind_eq_some_iff.mp e
  have s2 := (skp_suf _ _ _ (Nat.le_refl _) e3).trans s1
  obtain ⟨o1, o2⟩ := prs_ok _ _ _ _ (by simp) (fun c hc => G.c c (s2.subset hc)) e4
  have := s2.length_le
  have := G.n
  simp only [List.length_nil] at o2
  omega
set_option backward.eqns.nonrecursive false in
noncomputable def rd2R (H : Hp) (Q : AV → Hp → Prop) (X : Nat → Hp → Prop) : Option (List UInt8 × List UInt8 × Prs) → Prop
  | none => ∀ H', Kp H H' → X 59 H'
  | some (w, v, ps) => ∀ H' i j n, (∀ p ∈ ps, p.2.length ≤ 1000) → Kp H H' → H'[j]? = some (.dict (pl (fun w => .str (gs w)) ps) n) → H'[i]? = some (kd (small_ w) (small_ v) j) → Q (.obj i) H'
set_option tactic.hygienic true in
theorem d_430 (G : Gd o) (h : rd2R H Q X (rd2 o)) : iterF tab (k + 7) false 430 [.bytes o] H Q X := by
  rw [at_430, b_strict_kind]
  (repeat (simp_all_arith; simp_arith [c_155]))
  have ho := G.n
  refine d_338 getC (Nat.zero_le _) G.g ?_
  rw [List.drop_zero]
  unfold rd2 at h
  cases e1 : skp o with
  | none => rw [e1] at h; exact fun H' f => h _ f.kpn
  | some l1 =>
  rw [e1, Option.bind_some] at h
  intro b1 H1 eb1 hb1 f1 g1
  (repeat (simp_all_arith; simp_arith []))
  refine d_345 g1 hb1 ?_
  unfold tkR
  rw [eb1]
  by_cases tw : l1.takeWhile pT = []
  · rw [if_pos tw] at h ⊢
    exact fun H' f => h _ (f1.trans f).kpn
  rw [if_neg tw] at h ⊢
  intro b2 H2 eb2 hb2 f2 g2
  have s1 := skp_suf _ _ _ (Nat.le_refl _) e1
  have tl : (l1.takeWhile pT).length ≤ 1000 := by
    have := (List.takeWhile_sublist (l := l1) pT).length_le
    have := s1.length_le
    omega
  refine c_364 tl fun g => ?_
  have g2 := getL (g := g) g2
  have f3 := (f1.trans f2).trans (Fr.app (g := g))
  generalize H2 ++ g = H3 at g2 f3 ⊢
  (repeat (simp_all_arith; simp_arith []))
  refine d_338 g2 hb2 G.g ?_
  rw [eb2]
  cases e3 : skp (l1.dropWhile pT) with
  | none => rw [e3] at h; exact fun H' f => h _ (f3.trans f).kpn
  | some l3 =>
  rw [e3, Option.bind_some] at h
  intro b3 H4 eb3 hb3 f4 g4
  have f4 := f3.trans f4
  have s3 := ((skp_suf _ _ _ (Nat.le_refl _) e3).trans (List.dropWhile_suffix _)).trans s1
  have no : ¬ o[b3]? = some 47 → rdq (l1.takeWhile pT) l3 = none := fun q => by
    cases l3 with
    | nil => rfl
    | cons c r =>
      have e5 := (dropc eb3).1
      rw [rdq_cons, if_neg]
      intro q2
      exact q (by rw [e5]; exact congrArg some (u8.mp q2))
  by_cases q47 : o[b3]? = some 47
  case neg =>
    rw [no q47] at h
    (repeat (simp_all_arith; simp_arith [↓cur_14 g4, ↓c_124 g4, q47, Bool.not_false, ↓cur_1 g4, List.length_cons, List.length_nil]))
    exact h _ f4.kpn
  cases l3 with
  | nil => have := dropn hb3 eb3; have := (List.getElem?_eq_some_iff.mp q47).1; omega
  | cons c r =>
  obtain ⟨e5, e6, e7⟩ := dropc eb3
  have c47 : c.toNat = 47 := by rw [e5] at q47; cases q47; rfl
  rw [rdq_cons, if_pos c47] at h
  (repeat (simp_all_arith; simp_arith [↓cur_14 g4, ↓c_124 g4, q47, Bool.not_true]))
  have g5 : (H4.set (List.length H) (cur o (b3 + 1)))[List.length H]? = some (cur o (b3 + 1)) := List.getElem?_set_self (List.getElem?_eq_some_iff.mp g4).1
  have f5 := f4.trans (Fr.set (y := cur o (b3 + 1)))
  refine d_338 g5 (by omega) G.g ?_
  rw [e7]
  cases e8 : skp r with
  | none => rw [e8] at h; exact fun H' f => h _ (f5.trans f).kpn
  | some l5 =>
  rw [e8, Option.bind_some] at h
  intro b6 H6 eb6 hb6 f6 g6
  have f6 := f5.trans f6
  (repeat (simp_all_arith; simp_arith []))
  refine d_345 g6 hb6 ?_
  unfold tkR
  rw [eb6]
  unfold rdp at h
  by_cases tw2 : l5.takeWhile pT = []
  · rw [if_pos tw2] at h ⊢
    exact fun H' f => h _ (f6.trans f).kpn
  rw [if_neg tw2] at h ⊢
  intro b7 H7 eb7 hb7 f7 g7
  have f7 := f6.trans f7
  have s5 := ((skp_suf _ _ _ (Nat.le_refl _) e8).trans (List.suffix_cons _ _)).trans s3
  have tl2 : (l5.takeWhile pT).length ≤ 1000 := by
    have := (List.takeWhile_sublist (l := l5) pT).length_le
    have := s5.length_le
    omega
  refine c_364 tl2 fun g => ?_
  have g7 := getL (g := g) g7
  have f7 := f7.trans (Fr.app (g := g))
  generalize H7 ++ g = H8 at g7 f7 ⊢
  (repeat (simp_all_arith; simp_arith []))
  refine d_371 g7 hb7 G.g ?_
  rw [eb7]
  cases e9 : (skp (l5.dropWhile pT)).bind (prs 1001 []) with
  | none => rw [e9] at h; exact fun H' f => h _ (f7.trans f).kpn
  | some ps =>
  rw [e9, Option.map_some] at h
  obtain ⟨l2, e3, e4⟩ := Option.bind_eq_some_iff.mp e9
  have s2 := ((skp_suf _ _ _ (Nat.le_refl _) e3).trans (List.dropWhile_suffix _)).trans s5
  obtain ⟨o1, o2⟩ := prs_ok _ _ _ _ (by simp) (fun c hc => G.c c (s2.subset hc)) e4
  intro H9 i n3 o3 f8 g9
  refine d_416 g9 n3 (fun p hp => ⟨o1 p hp, (o3 p hp).2⟩) fun H4 j n k4 g4 => ?_
  simp_arith []
  rw [c_313]
  exact h _ _ _ n (fun p hp => (o3 p hp).2) (((f7.trans f8).kpn.trans k4).trans Kp.app) (getL g4) getC
end
end Mine
end

noncomputable section
open PySem PySem.W PyProof.Rows PySem.Calls PySem.Spec
set_option maxRecDepth 100000
namespace Mine
section
variable {k : Nat} {hd : Bool} {hp H : Hp} {Q : AV → Hp → Prop} {X : Nat → Hp → Prop} {o w : List UInt8} {a j i : Nat} {t s : Str} {Φ : Fn}
theorem d_498 (ha : a ≤ o.length) (h0 : skp (o.drop a) = none → Q .none H) (h1 : ∀ b r, skp (o.drop a) = some r → o.drop b = r → b ≤ o.length → a ≤ b → Q (.int (b : Int)) H) : iterF tab (k + 1) hd 498 [.bytes o, .int (a : Int)] H Q X := by
  refine c_498 ha ?_
  cases e : skp (o.drop a) with
  | none => exact h0 e
  | some r =>
    have s := skp_suf _ _ _ (Nat.le_refl _) e
    have hl := s.length_le
    rw [List.length_drop] at hl
    have e2 : o.drop (o.length - r.length) = r := List.suffix_iff_eq_drop.mp (s.trans (List.drop_suffix _ _)) |>.symm
    exact h1 _ r e e2 (by omega) (by omega)
set_option backward.eqns.nonrecursive false in
noncomputable def lrR (H : Hp) (fo : Nat) (Q : AV → Hp → Prop) : Option Prs → Prop
  | none => ∀ H', Kp H H' → Q .none H'
  | some ps => ∀ H' j n, Kp H H' → H'[j]? = some (.dict (pl .bytes ps) n) → Q (.tup [.obj fo, .obj j]) H'
set_option backward.eqns.nonrecursive false in
noncomputable def dropSs : Nat → Ss → Ss
  | 0, t => t
  | _ + 1, .nil => .nil
  | n + 1, .cons _ r => dropSs n r
set_option backward.eqns.nonrecursive false in
noncomputable def whlB : Ss → Ss
  | .cons (.whl _ b _) _ => b
  | _ => .nil
noncomputable def readW : Ss := dropSs 4 b_l_read
noncomputable def readE : Ss := dropSs 12 (whlB readW)
theorem read_end {fo pj b6 : Nat} {v4 v5 v8 : Option AV} {m : Nat} {ws : Int} {acc : Prs} {w0 v : List UInt8} {Hb : Hp} {P : St → Prop} {R : AV → St → Prop} {X : QX} (k1 : Kp Hb H) (hpj : Hb.length ≤ pj) (g1 : H[pj]? = some (.dict (pl .bytes acc) m)) (hb : b6 ≤ o.length) (ha : acc.length ≤ 1000)
    (hn : ∀ H' v7 v8 v9, Kp Hb H' → skp (o.drop b6) = none → P ⟨[some (.bytes o), some (.int ws), some .none, some (.obj fo), v4, v5, some (.obj pj), v7, v8, v9], H'⟩)
    (hs : ∀ H' b7 l m v7 v8 v9, Kp Hb H' → skp (o.drop b6) = some l → o.drop b7 = l → b7 ≤ o.length → H'[pj]? = some (.dict (pl .bytes (acc ++ [(w0, v)])) m) → P ⟨[some (.bytes o), some (.int ws), some (.int (b7 : Int)), some (.obj fo), v4, v5, some (.obj pj), v7, v8, v9], H'⟩) :
    wpSs (iterF tab (k + 1)) false readE ⟨[some (.bytes o), some (.int ws), some (.int (b6 : Int)), some (.obj fo), v4, v5, some (.obj pj), some (.str (small_ w0)), v8, some (.bytes v)], H⟩ P R P X := by
  show wpSs _ _ (.cons _ (.cons _ .nil)) _ _ _ _ _
  (repeat (simp_all_arith; simp_arith [g1, pl_in]))
  cases ea : (fst acc).any (·.1 == small_ w0) with
  | true =>
    simp only [Bool.not_true, ifB_ff]
    (repeat (simp_all_arith; simp_arith []))
    refine d_498 hb (fun e => ?_) fun b r e e2 hb2 _ => ?_
    · exact hn _ _ _ _ k1 e
    · exact hs _ _ _ _ _ _ _ k1 e e2 hb2 (by rw [pl_app, if_pos ea]; exact g1)
  | false =>
    simp only [Bool.not_false, ifB_tt]
    have l1 := pl_len (f := .bytes) (ps := acc)
    refine ⟨by omega, fun n => ?_⟩
    have k2 := k1.set (x := AO.dict (dput (small_ w0) (AV.bytes v) (pl .bytes acc)) n) hpj
    have g2 : (H.set pj (AO.dict (dput (small_ w0) (AV.bytes v) (pl .bytes acc)) n))[pj]? = some (.dict (pl .bytes (acc ++ [(w0, v)])) n) := by
      rw [List.getElem?_set_self (List.getElem?_eq_some_iff.mp g1).1, pl_app, if_neg (by simp [ea])]
    (repeat (simp_all_arith; simp_arith []))
    refine d_498 hb (fun e => ?_) fun b r e e2 hb2 _ => ?_
    · exact hn _ _ _ _ k2 e
    · exact hs _ _ _ _ _ _ _ k2 e e2 hb2 g2
set_option tactic.hygienic true in
theorem read_loop (G : Gd o) {fo pj : Nat} {v4 v5 v7 v8 v9 : Option AV} {n0 : Nat} {ws : Int} {Hb : Hp} (k1 : Kp Hb H) (hpj : Hb.length ≤ pj) (h0 : H[pj]? = some (.dict [] n0)) (hb : a ≤ o.length) (h : lrR Hb fo Q (prs 1001 [] (o.drop a))) :
    wpSs (iterF tab (k + 1)) false readW ⟨[some (.bytes o), some (.int ws), some (.int (a : Int)), some (.obj fo), v4, v5, some (.obj pj), v7, v8, v9], H⟩ (fun st => Q .none st.hp) (fun v st => Q v st.hp) (fun _ => False) (fun c st => X c st.hp) := by
  have ho := G.n
  show wpSs _ _ (.cons _ _) _ _ _ _ _
  (first | rw [wpS_whl] | (simp_all_arith; rw [wpS_whl]))
  intro P hP
  suffices key : ∀ n b H' (acc : Prs) m v5 v7 v8 v9, (o.drop b).length < n → b ≤ o.length → acc.length + (o.drop b).length ≤ 1000 → Kp Hb H' → H'[pj]? = some (.dict (pl .bytes acc) m) → lrR Hb fo Q (prs n acc (o.drop b)) →
      P ⟨[some (.bytes o), some (.int ws), some (.int (b : Int)), some (.obj fo), v4, v5, some (.obj pj), v7, v8, v9], H'⟩ from
    key 1001 a H [] n0 _ _ _ _ (by rw [List.length_drop]; omega) hb (by rw [List.length_nil, List.length_drop]; omega) k1 h0 h
  have pn : (∀ H', Kp Hb H' → Q .none H') → ∀ H' v5 v7 v8 v9, Kp Hb H' → P ⟨[some (.bytes o), some (.int ws), some .none, some (.obj fo), v4, v5, some (.obj pj), v7, v8, v9], H'⟩ := fun q H' v5 v7 v8 v9 k1 => by
    refine hP _ ?_
    simp_arith [Bool.not_true]
    (repeat (simp_all_arith; simp_arith []))
    exact q _ k1
  clear h hb h0 k1
  intro n
  induction n with
  | zero => intro b H' acc m v5 v7 v8 v9 h; omega
  | succ n ih =>
  intro b H' acc m v5 v7 v8 v9 hbn hb hlen k1 g1 h
  refine hP _ ?_
  cases e : o.drop b with
  | nil =>
    have l1 : ¬ (b : Int) < o.length := by have := dropn hb e; omega
    rw [e] at h
    simp_arith [l1, Bool.not_false]
    (repeat (simp_all_arith; simp_arith []))
    exact h _ _ _ k1 g1
  | cons c r =>
  obtain ⟨e1, e2, e3⟩ := dropc e
  have l1 : (b : Int) < o.length := by omega
  rw [e] at h hbn hlen
  simp_arith [l1, Bool.not_false]
  rw [prs_c] at h
  by_cases q59 : c.toNat = 59
  case neg =>
    rw [if_pos q59] at h
    (repeat (simp_all_arith; simp_arith [e1, Int.natCast_nonneg, Int.toNat_natCast, ieq, q59, Bool.not_false]))
    exact h _ k1
  rw [if_neg (fun q => q q59)] at h
  (repeat (simp_all_arith; simp_arith [e1, Int.natCast_nonneg, Int.toNat_natCast, ieq, q59, Bool.not_true, nat_succ]))
  refine d_498 (by omega) (fun es => ?_) fun b1 l es eb1 hb1 _ => ?_
  · rw [e3] at es
    rw [es] at h
    (repeat (simp_all_arith; simp_arith []))
    exact h _ k1
  rw [e3] at es
  rw [es, Option.bind_some] at h
  have n1 := skp_len _ _ _ (Nat.le_refl _) es
  simp only [List.length_cons] at hbn hlen
  cases l with
  | nil =>
    have ea := dropn hb1 eb1
    (repeat (simp_all_arith; simp_arith [ea, beq_self_eq_true]))
    refine ih o.length H' acc m _ _ _ _ (by rw [← ea, eb1]; simp only [List.length_nil]; omega) (Nat.le_refl _) (by rw [← ea, eb1]; simp only [List.length_nil]; omega) k1 g1 ?_
    rw [← ea, eb1]
    cases n with
    | zero => omega
    | succ n => exact h
  | cons d l =>
  obtain ⟨e4, e5, e6⟩ := dropc eb1
  rw [prs1_c] at h
  by_cases d59 : d.toNat = 59
  · rw [if_pos d59] at h
    (repeat (simp_all_arith; simp_arith [e4, Int.natCast_nonneg, Int.toNat_natCast, ieq, d59, eqlen e5]))
    exact ih b1 H' acc m _ _ _ _ (by rw [eb1]; omega) hb1 (by rw [eb1]; omega) k1 g1 (by rw [eb1]; exact h)
  rw [if_neg d59] at h
  (repeat (simp_all_arith; simp_arith [e4, Int.natCast_nonneg, Int.toNat_natCast, ieq, d59, eqlen e5]))
  refine c_505 hb1 ?_
  unfold rnR
  rw [pB_false, eb1]
  by_cases tw : (d :: l).takeWhile pT = []
  · rw [if_pos tw] at h ⊢
    try simp_arith []
    (repeat (simp_all_arith; simp_arith []))
    exact h _ k1
  rw [if_neg tw] at h ⊢
  intro b3 eb3 hb3 et
  have tl : ((d :: l).takeWhile pT).length ≤ 1000 := by
    have := (List.takeWhile_sublist (l := d :: l) pT).length_le
    omega
  (repeat (simp_all_arith; simp_arith [cut_nat, eb1, ← et]))
  refine c_522 tl fun g => ?_
  have k2 := k1.trans (Kp.app (g := g))
  have g2 := getL (g := g) g1
  generalize H' ++ g = H2 at k2 g2 ⊢
  (repeat (simp_all_arith; simp_arith []))
  have n2 := dw_len (p := pT) (l := d :: l)
  refine d_498 hb3 (fun es => ?_) fun b4 l4 es eb4 hb4 _ => ?_
  · rw [eb3] at es
    rw [es] at h
    (repeat (simp_all_arith; simp_arith []))
    exact h _ k2
  rw [eb3] at es
  rw [es, Option.bind_some] at h
  have n3 := skp_len _ _ _ (Nat.le_refl _) es
  cases l4 with
  | nil =>
    (repeat (simp_all_arith; simp_arith [nat_succ, cut_nat, eb4, List.take_nil, beq_nil1, Bool.not_false]))
    exact h _ k2
  | cons x l5 =>
  obtain ⟨e7, e8, e9⟩ := dropc eb4
  rw [lc_cons] at h
  by_cases q61 : x.toNat = 61
  case neg =>
    rw [if_pos q61] at h
    (repeat (simp_all_arith; simp_arith [nat_succ, cut_nat, eb4, Nat.add_sub_cancel_left, List.take_succ_cons, List.take_zero, beq_one, UInt8.reduceToNat, q61, Bool.not_false]))
    exact h _ k2
  rw [if_neg (fun q => q q61)] at h
  (repeat (simp_all_arith; simp_arith [nat_succ, cut_nat, eb4, Nat.add_sub_cancel_left, List.take_succ_cons, List.take_zero, beq_one, UInt8.reduceToNat, q61, Bool.not_true]))
  refine d_498 (by omega) (fun es => ?_) fun b5 l6 es eb5 hb5 _ => ?_
  · rw [e9] at es
    rw [es] at h
    (repeat (simp_all_arith; simp_arith []))
    exact h _ k2
  rw [e9] at es
  rw [es, Option.bind_some] at h
  have n4 := skp_len _ _ _ (Nat.le_refl _) es
  cases l6 with
  | nil =>
    have ea := dropn hb5 eb5
    (repeat (simp_all_arith; simp_arith [ea, beq_self_eq_true]))
    exact h _ k2
  | cons y l7 =>
  obtain ⟨e10, e11, e12⟩ := dropc eb5
  simp only [List.length_cons] at n1 n2 n3 n4
  have ends : ∀ (b6 : Nat) (v : List UInt8) (l8 : List UInt8) v5 v8, wor (y :: l7) = some (v, l8) → o.drop b6 = l8 → b6 ≤ o.length →
      wpSs (iterF tab (k + 1)) false readE ⟨[some (.bytes o), some (.int ws), some (.int (b6 : Int)), some (.obj fo), v4, v5, some (.obj pj), some (.str (small_ ((d :: l).takeWhile pT))), v8, some (.bytes v)], H2⟩ P (fun v st => Q v st.hp) P (fun c st => X c st.hp) := fun b6 v l8 v5 v8 ew eb6 hb6 => by
    rw [ew, Option.bind_some] at h
    dsimp only at h
    have n5 := (wor_suf ew).2.1
    simp only [List.length_cons] at n5
    refine read_end k2 hpj g2 hb6 (by omega) (fun H3 w7 w8 w9 k3 es => ?_) fun H3 b7 l9 m w7 w8 w9 k3 es eb7 hb7 g3 => ?_
    · rw [eb6] at es
      rw [es] at h
      exact pn h _ _ _ _ _ k3
    · rw [eb6] at es
      rw [es, Option.bind_some] at h
      have n6 := skp_len _ _ _ (Nat.le_refl _) es
      exact ih b7 H3 _ m _ _ _ _ (by rw [eb7]; omega) hb7 (by rw [eb7, List.length_append, List.length_singleton]; omega) k3 g3 (by rw [eb7]; exact h)
  have wn : wor (y :: l7) = none → ∀ H', Kp Hb H' → Q .none H' := fun ew => by rw [ew] at h; exact h
  by_cases q34 : y.toNat = 34
  · have ew : wor (y :: l7) = qtd l7 [] := if_pos q34
    (repeat (simp_all_arith; simp_arith [e10, Int.natCast_nonneg, Int.toNat_natCast, ieq, q34, eqlen e11]))
    refine c_512 (by omega) (by omega) ?_
    rw [e12]
    cases eq : qtd l7 [] with
    | none =>
      simp_arith [lqR]
      (repeat (simp_all_arith; simp_arith []))
      exact wn (ew.trans eq) _ k2
    | some p =>
      obtain ⟨v, l8⟩ := p
      intro b6 eb6 hb6
      (simp_all_arith; simp_arith [])
      (simp_all_arith; simp_arith [])
      exact ends b6 v l8 _ _ (ew.trans eq) eb6 hb6
  · have ew : wor (y :: l7) = if (y :: l7).takeWhile pW = [] then none else some ((y :: l7).takeWhile pW, (y :: l7).dropWhile pW) := if_neg q34
    (repeat (simp_all_arith; simp_arith [e10, Int.natCast_nonneg, Int.toNat_natCast, ieq, q34, eqlen e11]))
    refine c_505 hb5 ?_
    unfold rnR
    rw [pB_true, eb5]
    by_cases tw2 : (y :: l7).takeWhile pW = []
    · rw [if_pos tw2] at ew ⊢
      try simp_arith []
      (repeat (simp_all_arith; simp_arith []))
      exact wn ew _ k2
    rw [if_neg tw2] at ew ⊢
    intro b6 eb6 hb6 et2
    (simp_all_arith; simp_arith [])
    (simp_all_arith; simp_arith [cut_nat, eb5, ← et2])
    (simp_all_arith; simp_arith [])
    exact ends b6 _ _ _ _ ew eb6 hb6
end
end Mine
end

noncomputable section
open PySem PySem.W PyProof.Rows PySem.Calls PySem.Spec
set_option maxRecDepth 100000
namespace Mine
section
variable {k : Nat} {hd : Bool} {hp H : Hp} {Q : AV → Hp → Prop} {X : Nat → Hp → Prop} {o w : List UInt8} {a j i : Nat} {t s : Str} {Φ : Fn}
theorem rgA {P : List AV → Prop} : rangeQ [.int 1] P = P [.int 0] := propext ⟨fun h => h.2.2, fun h => ⟨by decide, by decide, h⟩⟩
theorem rgB {P : List AV → Prop} : rangeQ [.int 2] P = P [.int 0, .int 1] := propext ⟨fun h => h.2.2, fun h => ⟨by decide, by decide, h⟩⟩
noncomputable def readP : Ss := dropSs 3 b_l_read
theorem tail_none {fo : Nat} {v4 v5 v6 v7 v8 v9 : Option AV} {ws : Int} (h : ∀ H', Kp H H' → Q .none H') :
    wpSs (iterF tab (k + 1)) false readP ⟨[some (.bytes o), some (.int ws), some .none, some (.obj fo), v4, v5, v6, v7, v8, v9], H⟩ (fun st => Q .none st.hp) (fun v st => Q v st.hp) (fun _ => False) (fun c st => X c st.hp) := by
  show wpSs _ _ (.cons _ (.cons _ _)) _ _ _ _ _
  simp_all_arith
  simp_arith []
  intro n
  (first | rw [wpS_whl] | (simp_all_arith; rw [wpS_whl]))
  intro P hP
  refine hP _ ?_
  simp_arith [Bool.not_true]
  (repeat (simp_all_arith; simp_arith []))
  exact h _ Kp.app
theorem tail_some (G : Gd o) {fo : Nat} {v4 v5 v6 v7 v8 v9 : Option AV} {ws : Int} (hb : a ≤ o.length) (h : lrR H fo Q (prs 1001 [] (o.drop a))) :
    wpSs (iterF tab (k + 1)) false readP ⟨[some (.bytes o), some (.int ws), some (.int (a : Int)), some (.obj fo), v4, v5, v6, v7, v8, v9], H⟩ (fun st => Q .none st.hp) (fun v st => Q v st.hp) (fun _ => False) (fun c st => X c st.hp) := by
  show wpSs _ _ (.cons _ readW) _ _ _ _ _
  simp_all_arith
  simp_arith []
  intro n
  exact read_loop G Kp.app (Nat.le_refl _) getC hb h
set_option backward.eqns.nonrecursive false in
noncomputable def lfR (H : Hp) (Q : AV → Hp → Prop) : Option (List Str × Prs) → Prop
  | none => ∀ H', Kp H H' → Q .none H'
  | some (ws, ps) => ∀ H' i j n, Kp H H' → H'[i]? = some (.list (ws.map .str)) → H'[j]? = some (.dict (pl .bytes ps) n) → Q (.tup [.obj i, .obj j]) H'
theorem lf_tail {ws : List Str} {l : List UInt8} {H2 : Hp} {fo : Nat} (k1 : Kp H H2) (g : H2[fo]? = some (.list (ws.map .str))) (h : lfR H Q ((prs 1001 [] l).map fun ps => (ws, ps))) : lrR H2 fo Q (prs 1001 [] l) := by
  cases e : prs 1001 [] l with
  | none => rw [e] at h; exact fun H' k => h _ (k1.trans k)
  | some ps => rw [e] at h; exact fun H' j n k g2 => h _ _ _ _ (k1.trans k) (k _ _ g) g2
theorem d_529a (G : Gd o) (h : lfR H Q ((rd1 o).map fun p => ([small_ p.1], p.2))) : iterF tab (k + 2) false 529 [.bytes o, .int 1] H Q X := by
  unfold rd1 at h
  have ho := G.n
  rw [at_529]
  show wpSs _ _ (.cons _ (.cons _ (.cons _ readP))) _ _ _ _ _
  simp_all_arith
  simp_arith []
  refine d_498 (a := 0) (Nat.zero_le _) (fun es => ?_) fun b1 l1 es eb1 hb1 _ => ?_
  · rw [List.drop_zero] at es
    rw [es] at h
    (repeat (simp_all_arith; simp_arith []))
    (simp_all_arith; rw [wpS_forR])
    refine ⟨rfl, ?_⟩
    simp_arith [↓rgA, forQ_cons]
    (repeat (simp_all_arith; simp_arith []))
    exact h _ Kp.app
  rw [List.drop_zero] at es
  rw [es] at h
  simp only [Option.bind_some, rdp] at h
  have s1 := skp_suf _ _ _ (Nat.le_refl _) es
  (repeat (simp_all_arith; simp_arith []))
  (simp_all_arith; rw [wpS_forR])
  refine ⟨rfl, ?_⟩
  simp_arith [↓rgA, forQ_cons]
  (repeat (simp_all_arith; simp_arith [show ((0 : Int) == 0) = true from rfl, Int.lt_irrefl]))
  refine c_505 hb1 ?_
  unfold rnR
  rw [pB_false, eb1]
  by_cases tw : l1.takeWhile pT = []
  · rw [if_pos tw] at h ⊢
    try simp_arith []
    (repeat (simp_all_arith; simp_arith []))
    exact h _ Kp.app
  rw [if_neg tw] at h ⊢
  intro b2 eb2 hb2 et
  have tl : (l1.takeWhile pT).length ≤ 1000 := by
    have := (List.takeWhile_sublist (l := l1) pT).length_le
    have := s1.length_le
    omega
  (repeat (simp_all_arith; simp_arith [cut_nat, eb1, ← et, getC]))
  refine c_522 tl fun g => ?_
  have g1 := getL (g := g) (getC (h := H) (x := AO.list []))
  have k1 := (Kp.app (H := H) (g := [AO.list []])).trans (Kp.app (g := g))
  generalize (H ++ [AO.list []]) ++ g = H1 at g1 k1 ⊢
  simp_arith [g1, List.length_nil, List.nil_append]
  have k2 := k1.set (x := AO.list [AV.str (small_ (l1.takeWhile pT))]) (Nat.le_refl _)
  have g2 : (H1.set H.length (AO.list [AV.str (small_ (l1.takeWhile pT))]))[H.length]? = some (AO.list [AV.str (small_ (l1.takeWhile pT))]) := List.getElem?_set_self (List.getElem?_eq_some_iff.mp g1).1
  generalize H1.set H.length (AO.list [AV.str (small_ (l1.takeWhile pT))]) = H2 at k2 g2 ⊢
  clear g1 k1
  (repeat (simp_all_arith; simp_arith []))
  refine d_498 hb2 (fun es => ?_) fun b3 l3 es eb3 hb3 _ => ?_
  · rw [eb2] at es
    rw [es] at h
    simp_arith [forQ_nil]
    exact tail_none fun H' k => h _ (k2.trans k)
  rw [eb2] at es
  rw [es] at h
  simp_arith [forQ_nil]
  refine tail_some G hb3 (lf_tail (ws := [small_ (l1.takeWhile pT)]) k2 g2 ?_)
  rw [eb3]
  simpa only [Option.bind_some, Option.map_map, Function.comp_def] using h
set_option tactic.hygienic true in
theorem d_529b (G : Gd o) (h : lfR H Q ((rd2 o).map fun p => ([small_ p.1, small_ p.2.1], p.2.2))) : iterF tab (k + 2) false 529 [.bytes o, .int 2] H Q X := by
  unfold rd2 at h
  have ho := G.n
  rw [at_529]
  show wpSs _ _ (.cons _ (.cons _ (.cons _ readP))) _ _ _ _ _
  simp_all_arith
  simp_arith []
  refine d_498 (a := 0) (Nat.zero_le _) (fun es => ?_) fun b1 l1 es eb1 hb1 _ => ?_
  · rw [List.drop_zero] at es
    rw [es] at h
    (repeat (simp_all_arith; simp_arith []))
    (simp_all_arith; rw [wpS_forR])
    refine ⟨rfl, ?_⟩
    simp_arith [↓rgB, forQ_cons]
    (repeat (simp_all_arith; simp_arith []))
    exact h _ Kp.app
  rw [List.drop_zero] at es
  rw [es] at h
  simp only [Option.bind_some, rdp] at h
  have s1 := skp_suf _ _ _ (Nat.le_refl _) es
  (repeat (simp_all_arith; simp_arith []))
  (simp_all_arith; rw [wpS_forR])
  refine ⟨rfl, ?_⟩
  simp_arith [↓rgB, forQ_cons]
  (repeat (simp_all_arith; simp_arith [show ((0 : Int) == 0) = true from rfl, Int.lt_irrefl]))
  refine c_505 hb1 ?_
  unfold rnR
  rw [pB_false, eb1]
  by_cases tw : l1.takeWhile pT = []
  · rw [if_pos tw] at h ⊢
    try simp_arith []
    (repeat (simp_all_arith; simp_arith []))
    exact h _ Kp.app
  rw [if_neg tw] at h ⊢
  intro b2 eb2 hb2 et
  have tl : (l1.takeWhile pT).length ≤ 1000 := by
    have := (List.takeWhile_sublist (l := l1) pT).length_le
    have := s1.length_le
    omega
  (repeat (simp_all_arith; simp_arith [cut_nat, eb1, ← et, getC]))
  refine c_522 tl fun g => ?_
  have g1 := getL (g := g) (getC (h := H) (x := AO.list []))
  have k1 := (Kp.app (H := H) (g := [AO.list []])).trans (Kp.app (g := g))
  generalize (H ++ [AO.list []]) ++ g = H1 at g1 k1 ⊢
  simp_arith [g1, List.length_nil, List.nil_append]
  have k2 := k1.set (x := AO.list [AV.str (small_ (l1.takeWhile pT))]) (Nat.le_refl _)
  have g2 : (H1.set H.length (AO.list [AV.str (small_ (l1.takeWhile pT))]))[H.length]? = some (AO.list [AV.str (small_ (l1.takeWhile pT))]) := List.getElem?_set_self (List.getElem?_eq_some_iff.mp g1).1
  generalize H1.set H.length (AO.list [AV.str (small_ (l1.takeWhile pT))]) = H2 at k2 g2 ⊢
  clear g1 k1
  (repeat (simp_all_arith; simp_arith []))
  refine d_498 hb2 (fun es => ?_) fun b3 l3 es eb3 hb3 _ => ?_
  · rw [eb2] at es
    rw [es] at h
    try simp_arith [forQ_cons]
    (repeat (simp_all_arith; simp_arith []))
    exact h _ k2
  rw [eb2] at es
  rw [es] at h
  simp only [Option.bind_some] at h
  have s3 := ((skp_suf _ _ _ (Nat.le_refl _) es).trans (List.dropWhile_suffix _)).trans s1
  try simp_arith [forQ_cons]
  cases l3 with
  | nil =>
    (repeat (simp_all_arith; simp_arith [nat_succ, cut_nat, eb3, List.take_nil, beq_nil1, Bool.not_false]))
    exact h _ k2
  | cons c r =>
  obtain ⟨e1, e2, e3⟩ := dropc eb3
  rw [rdq_cons] at h
  by_cases q47 : c.toNat = 47
  case neg =>
    rw [if_neg q47] at h
    (repeat (simp_all_arith; simp_arith [nat_succ, cut_nat, eb3, Nat.add_sub_cancel_left, List.take_succ_cons, List.take_zero, beq_one, UInt8.reduceToNat, q47, Bool.not_false]))
    exact h _ k2
  rw [if_pos q47] at h
  (repeat (simp_all_arith; simp_arith [nat_succ, cut_nat, eb3, Nat.add_sub_cancel_left, List.take_succ_cons, List.take_zero, beq_one, UInt8.reduceToNat, q47, Bool.not_true, show ((1 : Int) == 0) = false from rfl]))
  refine d_498 (by omega) (fun es => ?_) fun b4 l4 es eb4 hb4 _ => ?_
  · rw [e3] at es
    rw [es] at h
    (repeat (simp_all_arith; simp_arith []))
    exact h _ k2
  rw [e3] at es
  rw [es] at h
  simp only [Option.bind_some, rdp] at h
  have s4 := ((skp_suf _ _ _ (Nat.le_refl _) es).trans (List.suffix_cons _ _)).trans s3
  (repeat (simp_all_arith; simp_arith []))
  refine c_505 hb4 ?_
  unfold rnR
  rw [pB_false, eb4]
  by_cases tw : l4.takeWhile pT = []
  · rw [if_pos tw] at h ⊢
    try simp_arith []
    (repeat (simp_all_arith; simp_arith []))
    exact h _ k2
  rw [if_neg tw] at h ⊢
  intro b5 eb5 hb5 et
  have tl : (l4.takeWhile pT).length ≤ 1000 := by
    have := (List.takeWhile_sublist (l := l4) pT).length_le
    have := s4.length_le
    omega
  (repeat (simp_all_arith; simp_arith [cut_nat, eb4, ← et, g2]))
  refine c_522 tl fun g => ?_
  have g3 := getL (g := g) g2
  have k3 := k2.trans (Kp.app (g := g))
  generalize H2 ++ g = H3 at g3 k3 ⊢
  simp_arith [g3, List.length_cons, List.length_nil, List.cons_append, List.nil_append]
  have k4 := k3.set (x := AO.list [AV.str (small_ (l1.takeWhile pT)), AV.str (small_ (l4.takeWhile pT))]) (Nat.le_refl _)
  have g4 : (H3.set H.length (AO.list [AV.str (small_ (l1.takeWhile pT)), AV.str (small_ (l4.takeWhile pT))]))[H.length]? = some (AO.list [AV.str (small_ (l1.takeWhile pT)), AV.str (small_ (l4.takeWhile pT))]) := List.getElem?_set_self (List.getElem?_eq_some_iff.mp g3).1
  generalize H3.set H.length (AO.list [AV.str (small_ (l1.takeWhile pT)), AV.str (small_ (l4.takeWhile pT))]) = H4 at k4 g4 ⊢
  (repeat (simp_all_arith; simp_arith []))
  refine d_498 hb5 (fun es => ?_) fun b6 l6 es eb6 hb6 _ => ?_
  · rw [eb5] at es
    rw [es] at h
    try simp_arith [forQ_nil]
    exact tail_none fun H' k => h _ (k4.trans k)
  rw [eb5] at es
  rw [es] at h
  try simp_arith [forQ_nil]
  refine tail_some G hb6 (lf_tail (ws := [small_ (l1.takeWhile pT), small_ (l4.takeWhile pT)]) k4 g4 ?_)
  rw [eb6]
  simpa only [Option.bind_some, Option.map_map, Function.comp_def] using h
end
end Mine
end

noncomputable section
open PySem PySem.W PyProof.Rows PySem.Calls PySem.Spec
set_option maxRecDepth 100000
namespace Mine
noncomputable def potL (c : Nat) (st pl : Int) : AO := .list [.obj c, .int st, .int pl]
noncomputable def Pot (H : Hp) (p c n : Nat) : Prop := ∃ (st pl : Int) (cs : List Int), H[p]? = some (potL c st pl) ∧ H[c]? = some (.list (cs.map .int)) ∧ p ≠ c ∧ 0 ≤ st ∧ st < 2147483647 ∧ 0 ≤ pl ∧ pl ≤ (n : Int) ∧ ∀ x ∈ cs, (0 : Int) ≤ x
theorem Pot.mono {H : Hp} {p c n m : Nat} (h : Pot H p c n) (l : n ≤ m) : Pot H p c m := by
  obtain ⟨st, pl, cs, a, b, d, e, f, g, i, j⟩ := h
  exact ⟨st, pl, cs, a, b, d, e, f, g, by omega, j⟩
noncomputable def Fr2 (H H' : Hp) (p c : Nat) : Prop := ∀ (i : Nat) (x : AO), i ≠ p → i ≠ c → H[i]? = some x → H'[i]? = some x
theorem Fr2.trans {H H' H'' : Hp} {p c : Nat} (a : Fr2 H H' p c) (b : Fr2 H' H'' p c) : Fr2 H H'' p c := fun i x h1 h2 e => b i x h1 h2 (a i x h1 h2 e)
theorem Fr2.app {H g : Hp} {p c : Nat} : Fr2 H (H ++ g) p c := fun _ _ _ _ e => getL e
theorem Fr2.set1 {H : Hp} {p c : Nat} {x : AO} : Fr2 H (H.set p x) p c := fun i y h1 _ e => by rw [List.getElem?_set_ne (Ne.symm h1)]; exact e
theorem Fr2.set2 {H : Hp} {p c : Nat} {x : AO} : Fr2 H (H.set c x) p c := fun i y _ h2 e => by rw [List.getElem?_set_ne (Ne.symm h2)]; exact e
theorem Fr2.refl {H : Hp} {p c : Nat} : Fr2 H H p c := fun _ _ _ _ e => e
theorem Pot.app {H g : Hp} {p c n : Nat} (h : Pot H p c n) : Pot (H ++ g) p c n := by
  obtain ⟨st, pl, cs, a, b, d, r⟩ := h
  exact ⟨st, pl, cs, getL a, getL b, d, r⟩
section
variable {k : Nat} {hd : Bool} {hp H : Hp} {Q : AV → Hp → Prop} {X : Nat → Hp → Prop} {o w : List UInt8} {a j i : Nat} {t s : Str} {Φ : Fn}
theorem d_449 {p c n : Nat} {lim : Int} (hP : Pot H p c n) (h1 : 1 ≤ lim) (h2 : lim < 1000) (hn : n ≤ 1000) (h : ∀ H' (m : Nat), Pot H' p c (n + 1) → Fr2 H H' p c → (m : Int) < lim → Q (.int (m : Int)) H') :
    iterF tab (k + 1) hd 449 [.obj p, .int lim] H Q X := by
  obtain ⟨st, pl, cs, hp, hc, hpc, s0, s1, p0, p1, hcs⟩ := hP
  have lp := (List.getElem?_eq_some_iff.mp hp).1
  have lc := (List.getElem?_eq_some_iff.mp hc).1
  unfold potL at hp
  rw [at_449, b_l_draw]
  (simp_all_arith; simp_arith [hp, show (2 : Int).toNat = 2 from rfl])
  (simp_all_arith; simp_arith [hp, show (2 : Int).toNat = 2 from rfl, List.length_cons, List.length_nil])
  refine ⟨by decide, ?_⟩
  have hp1 : (H.set p (potL c st (pl + 1)))[p]? = some (potL c st (pl + 1)) := List.getElem?_set_self lp
  have hc1 : (H.set p (potL c st (pl + 1)))[c]? = some (.list (cs.map .int)) := by rw [List.getElem?_set_ne hpc]; exact hc
  have f1 : Fr2 H (H.set p (potL c st (pl + 1))) p c := Fr2.set1
  change wpSs _ _ _ ⟨_, H.set p (potL c st (pl + 1))⟩ _ _ _ _
  have lp1 : p < (H.set p (potL c st (pl + 1))).length := by rw [List.length_set]; exact lp
  have lc1 : c < (H.set p (potL c st (pl + 1))).length := by rw [List.length_set]; exact lc
  generalize H.set p (potL c st (pl + 1)) = H1 at hp1 hc1 f1 lp1 lc1 ⊢
  unfold potL at hp1
  have sm : ∀ x : Int, 0 ≤ x → x < 2147483648 → small x := fun x h h' => by unfold small; omega
  have l0 : lim ≠ 0 := by omega
  have res : ∀ x : Int, ∃ m : Nat, Int.fmod x lim = (m : Int) ∧ (m : Int) < lim := fun x => by
    have e : Int.fmod x lim = x % lim := Int.fmod_eq_emod_of_nonneg x (by omega)
    have e1 := Int.emod_nonneg x l0
    have e2 := Int.emod_lt_of_pos x (by omega : 0 < lim)
    obtain ⟨m, hm⟩ := Int.eq_ofNat_of_zero_le e1
    exact ⟨m, by rw [e]; exact hm, by rw [← show x % lim = (m : Int) from hm]; exact e2⟩
  have last : ∀ v3 v4, wpSs (iterF tab k) hd (dropSs 3 b_l_draw) ⟨[some (.obj p), some (.int lim), some (.int pl), v3, v4], H1⟩ (fun st => Q .none st.hp) (fun v st => Q v st.hp) (fun _ => False) (fun c st => X c st.hp) := by
    intro v3 v4
    show wpSs _ _ (.cons _ (.cons _ .nil)) _ _ _ _ _
    (simp_all_arith; simp_arith [hp1, show (1 : Int).toNat = 1 from rfl, List.length_cons, List.length_nil])
    refine ⟨sm st s0 (by omega), sm 16807 (by omega) (by omega), sm pl p0 (by omega), sm pl p0 (by omega), by decide, by decide, ?_⟩
    have z0 : Int.fmod (st * 16807 + pl * pl + 7) 2147483647 = (st * 16807 + pl * pl + 7) % 2147483647 := Int.fmod_eq_emod_of_nonneg _ (by omega)
    have z1 := Int.emod_nonneg (st * 16807 + pl * pl + 7) (by omega : (2147483647 : Int) ≠ 0)
    have z2 := Int.emod_lt_of_pos (st * 16807 + pl * pl + 7) (by omega : (0 : Int) < 2147483647)
    rw [← z0] at z1 z2
    generalize Int.fmod (st * 16807 + pl * pl + 7) 2147483647 = z at z1 z2 ⊢
    have hp2 : (H1.set p (potL c z (pl + 1)))[p]? = some (potL c z (pl + 1)) := List.getElem?_set_self lp1
    have hc2 : (H1.set p (potL c z (pl + 1)))[c]? = some (.list (cs.map .int)) := by rw [List.getElem?_set_ne hpc]; exact hc1
    have f2 : Fr2 H (H1.set p (potL c z (pl + 1))) p c := f1.trans Fr2.set1
    change wpSs _ _ _ ⟨_, H1.set p (potL c z (pl + 1))⟩ _ _ _ _
    generalize H1.set p (potL c z (pl + 1)) = H2 at hp2 hc2 f2 ⊢
    have hp3 := hp2
    unfold potL at hp2
    (repeat (simp_all_arith; simp_arith [hp2, show (1 : Int).toNat = 1 from rfl]))
    obtain ⟨m, em, hm⟩ := res (Int.fdiv z 5)
    refine ⟨by decide, by decide, l0, ?_⟩
    rw [em]
    exact h H2 m ⟨z, pl + 1, cs, hp3, hc2, hpc, z1, z2, by omega, by omega, hcs⟩ f2 hm
  simp_all_arith
  simp_arith [hp1, show (0 : Int).toNat = 0 from rfl, hc1]
  cases cs with
  | nil =>
    simp only [List.map_nil, List.isEmpty_nil, Bool.not_true, ifB_ff]
    exact last _ _
  | cons x0 xs =>
  generalize ecs : x0 :: xs = cs at hc1 hcs ⊢
  have cpos : 0 < cs.length := by rw [← ecs]; simp
  have ce : (List.map AV.int cs).isEmpty = false := by rw [← ecs]; rfl
  rw [ce]
  simp only [Bool.not_false, ifB_tt]
  (simp_all_arith; simp_arith [hp1, show (0 : Int).toNat = 0 from rfl, hc1, List.length_map])
  have y0 : Int.fmod pl cs.length = pl % cs.length := Int.fmod_eq_emod_of_nonneg _ (by omega)
  have y1 := Int.emod_nonneg pl (by omega : (cs.length : Int) ≠ 0)
  have y2 := Int.emod_lt_of_pos pl (by omega : (0 : Int) < cs.length)
  rw [← y0] at y1 y2
  obtain ⟨sp, esp⟩ := Int.eq_ofNat_of_zero_le y1
  have esp : Int.fmod pl (cs.length : Int) = (sp : Int) := esp
  rw [esp] at y2 ⊢
  have lsp : sp < cs.length := by omega
  have gx : (List.map AV.int cs)[sp]? = some (.int cs[sp]) := by rw [List.getElem?_map, List.getElem?_eq_getElem lsp]; rfl
  have hx : 0 ≤ cs[sp] := hcs _ (List.getElem_mem lsp)
  generalize cs[sp] = x at gx hx
  refine ⟨by omega, ?_⟩
  (simp_all_arith; simp_arith [hp1, show (0 : Int).toNat = 0 from rfl, hc1, Int.natCast_nonneg, Int.toNat_natCast, gx, List.length_map])
  (simp_all_arith; simp_arith [])
  by_cases hx0 : 0 < x
  · simp only [hx0, decide_true, ifB_tt]
    (simp_all_arith; simp_arith [hp1, show (0 : Int).toNat = 0 from rfl, hc1, Int.natCast_nonneg, Int.toNat_natCast, gx, List.length_map])
    refine ⟨l0, by omega, by omega, ?_⟩
    (simp_all_arith; simp_arith [])
    obtain ⟨m, em, hm⟩ := res x
    refine ⟨l0, ?_⟩
    rw [em]
    have q0 : Int.fdiv x lim = x / lim := Int.fdiv_eq_ediv_of_nonneg x (by omega)
    have q1 : 0 ≤ Int.fdiv x lim := by rw [q0]; exact Int.ediv_nonneg hx (by omega)
    refine h _ m ⟨st, pl + 1, cs.set sp (Int.fdiv x lim), ?_, ?_, hpc, s0, s1, by omega, by omega, ?_⟩ (f1.trans Fr2.set2) hm
    · rw [List.getElem?_set_ne (Ne.symm hpc)]; exact hp1
    · rw [List.getElem?_set_self lc1, List.map_set]
    · intro y hy
      rcases List.mem_or_eq_of_mem_set hy with z | z
      · exact hcs y z
      · rw [z]; exact q1
  · simp only [hx0, decide_false, ifB_ff]
    exact last _ _
end
end Mine
end

noncomputable section
open PySem PySem.W PyProof.Rows PySem.Calls PySem.Spec
set_option maxRecDepth 100000
namespace Mine
theorem wt_app : ∀ u v : List UInt8, wt (u ++ v) = wt u + wt v
  | [], v => (Int.zero_add _).symm
  | c :: r, v => by rw [List.cons_append, wt_c, wt_c, wt_app r v]; omega
structure Pc (u : List UInt8) (t l : Nat) : Prop where
  lo : ∀ k, 0 ≤ wt (u.take k)
  hi : ∀ k, wt (u.take k) ≤ t + 2
  tot : wt u ≤ t
  ok : ∀ c ∈ u, okc c
  len : u.length ≤ l
theorem Pc.app {u v : List UInt8} {a b l m : Nat} (x : Pc u a l) (y : Pc v b m) : Pc (u ++ v) (a + b) (l + m) where
  lo k := by
    rw [List.take_append, wt_app]
    have h1 := x.lo k
    have h2 := y.lo (k - u.length)
    omega
  hi k := by
    rw [List.take_append, wt_app]
    have h2 := y.hi (k - u.length)
    by_cases hk : k ≤ u.length
    · have h1 := x.hi k
      rw [show k - u.length = 0 from by omega, List.take_zero, show wt [] = 0 from rfl]
      omega
    · rw [List.take_of_length_le (by omega)]
      have h1 := x.tot
      omega
  tot := by rw [wt_app]; have := x.tot; have := y.tot; omega
  ok c hc := (List.mem_append.mp hc).elim (x.ok c) (y.ok c)
  len := by rw [List.length_append]; have := x.len; have := y.len; omega
noncomputable def okB (c : UInt8) : Bool := c.toNat != 0 && c.toNat != 42 && (decide (c.toNat < 128) || c.toNat == 195 || c.toNat == 169 || c.toNat == 233)
noncomputable def pcB (u : List UInt8) (t l : Nat) : Bool := (List.range (u.length + 1)).all (fun k => decide (0 ≤ wt (u.take k)) && decide (wt (u.take k) ≤ t + 2)) && decide (wt u ≤ t) && u.all okB && decide (u.length ≤ l)
theorem pc_of {u : List UInt8} {t l : Nat} (h : pcB u t l = true) : Pc u t l := by
  simp only [pcB, Bool.and_eq_true, decide_eq_true_eq, List.all_eq_true, List.mem_range] at h
  obtain ⟨⟨⟨h1, h2⟩, h3⟩, h4⟩ := h
  have key : ∀ k, 0 ≤ wt (u.take k) ∧ wt (u.take k) ≤ t + 2 := fun k => by
    by_cases hk : k < u.length + 1
    · exact h1 k hk
    · have := h1 u.length (by omega)
      rw [List.take_of_length_le (by omega)] at this ⊢
      exact this
  refine ⟨fun k => (key k).1, fun k => (key k).2, h2, fun c hc => ?_, h4⟩
  have := h3 c hc
  simp only [okB, Bool.and_eq_true, bne_iff_ne, Bool.or_eq_true, decide_eq_true_eq, beq_iff_eq] at this
  exact ⟨this.1.1, this.1.2, or_assoc.mp (or_assoc.mp this.2)⟩
theorem gd_of {o : List UInt8} (hk : ∀ k, -2 ≤ wt (o.take k) ∧ wt (o.take k) ≤ 7) (ho : ∀ c ∈ o, okc c) (hl : o.length < 240) : Gd o := by
  have hd : GD o := fun a n => by
    have e : wt (o.take (a + n)) = wt (o.take a) + wt ((o.drop a).take n) := by rw [← wt_app, List.take_add]
    have h1 := hk (a + n)
    have h2 := hk a
    omega
  exact ⟨⟨fun c hc => (ho c hc).1, by omega, hd⟩, hl, ho⟩
theorem gd_pc {u : List UInt8} (h : Pc u 3 229) : Gd u := gd_of (fun k => ⟨by have := h.lo k; omega, by have := h.hi k; omega⟩) h.ok (by have := h.len; omega)
theorem gd_take {u : List UInt8} {m : Nat} (h : Pc u 3 229) : Gd (u.take m) := gd_of (fun k => by
    rw [List.take_take]
    exact ⟨by have := h.lo (min k m); omega, by have := h.hi (min k m); omega⟩) (fun c hc => h.ok c (List.mem_of_mem_take hc)) (by have := h.len; rw [List.length_take]; omega)
theorem w1_rng (n : Nat) : -1 ≤ w1 n ∧ w1 n ≤ 1 := by
  unfold w1
  split
  · omega
  · split
    · omega
    · split <;> omega
theorem gd_set {u : List UInt8} {s : Nat} {c : UInt8} (h : Pc u 3 229) (hs : s < u.length) (hc : okc c) : Gd (u.take s ++ [c] ++ u.drop (s + 1)) := by
  have e0 : u = u.take s ++ [u[s]] ++ u.drop (s + 1) := by
    rw [List.append_assoc, List.singleton_append, ← List.drop_eq_getElem_cons hs, List.take_append_drop]
  have ht : (u.take s).length = s := by rw [List.length_take]; omega
  refine gd_of (fun k => ?_) (fun d hd => ?_) ?_
  · have gen : ∀ x : UInt8, wt ((u.take s ++ [x] ++ u.drop (s + 1)).take k) = wt ((u.take s).take k) + wt ([x].take (k - s)) + wt ((u.drop (s + 1)).take (k - (s + 1))) := fun x => by
      rw [List.take_append, List.take_append, wt_app, wt_app, List.length_append, ht, List.length_singleton]
    have one : ∀ (x : UInt8) m, -1 ≤ wt ([x].take m) ∧ wt ([x].take m) ≤ 1 := fun x m => by
      cases m with
      | zero => rw [List.take_zero]; exact ⟨by decide, by decide⟩
      | succ m =>
        have := w1_rng x.toNat
        rw [List.take_succ_cons, List.take_nil, wt_c, show wt [] = 0 from rfl]
        omega
    have h1 := h.lo k
    have h2 := h.hi k
    rw [e0, gen] at h1 h2
    rw [gen]
    have o1 := one u[s] (k - s)
    have o2 := one c (k - s)
    omega
  · rcases List.mem_append.mp hd with z | z
    · rcases List.mem_append.mp z with z | z
      · exact h.ok d (List.mem_of_mem_take z)
      · rw [List.mem_singleton.mp z]; exact hc
    · exact h.ok d (List.mem_of_mem_drop z)
  · have := h.len
    rw [List.length_append, List.length_append, ht, List.length_singleton, List.length_drop]
    omega
section
variable {k : Nat} {hd : Bool} {hp H : Hp} {Q : AV → Hp → Prop} {X : Nat → Hp → Prop} {o w : List UInt8} {a j i p c n : Nat} {t s : Str} {Φ : Fn}
noncomputable def gapsL : List (List UInt8) := [[], [32], [13, 10, 32], [9], [40, 97, 32, 40, 98, 41, 32, 99, 41], [32, 40, 120, 59, 121, 61, 92, 41, 122, 41, 32]]
noncomputable def headsL : List (List UInt8) := [[116, 101, 120, 116, 47, 112, 108, 97, 105, 110], [84, 101, 120, 116, 32, 47, 32, 72, 116, 109, 108], [109, 117, 108, 116, 105, 112, 97, 114, 116, 47, 109, 105, 120, 101, 100], [77, 69, 83, 83, 65, 71, 69, 47, 82, 70, 67, 56, 50, 50], [97, 116, 116, 97, 99, 104, 109, 101, 110, 116], [105, 110, 108, 105, 110, 101], [97, 47, 98, 47, 99], [116, 101, 32, 120, 116, 47, 120]]
noncomputable def namesL : List (List UInt8) := [[110, 97, 109, 101], [67, 104, 97, 114, 115, 101, 116], [120, 45, 49], [110, 97, 109, 101], [97, 46, 98]]
noncomputable def worthsL : List (List UInt8) := [[117, 115, 45, 97, 115, 99, 105, 105], [34, 116, 119, 111, 32, 119, 111, 114, 100, 115, 34], [34, 97, 92, 34, 98, 59, 99, 34], [120, 46, 121], [233], [34, 195, 169, 34], [34, 34], [66, 43, 99]]
theorem c_456 : iterF tab (k + 1) hd 456 [] H Q X = Q (.obj H.length) (H ++ [.list (gapsL.map .bytes)]) := by
  rw [at_456, b_l_gaps]; simp_arith [↓wrs0, ↓wrs1]; rfl
theorem c_463 : iterF tab (k + 1) hd 463 [] H Q X = Q (.obj H.length) (H ++ [.list (headsL.map .bytes)]) := by
  rw [at_463, b_l_heads]; simp_arith [↓wrs0, ↓wrs1]; rfl
theorem c_470 : iterF tab (k + 1) hd 470 [] H Q X = Q (.obj H.length) (H ++ [.list (namesL.map .bytes)]) := by
  rw [at_470, b_l_names]; simp_arith [↓wrs0, ↓wrs1]; rfl
theorem c_477 : iterF tab (k + 1) hd 477 [] H Q X = Q (.obj H.length) (H ++ [.list (worthsL.map .bytes)]) := by
  rw [at_477, b_l_worths]; simp_arith [↓wrs0, ↓wrs1]; rfl
theorem sub_pick {L : List (List UInt8)} {m : Nat} {P : AV → Prop} (h : H[j]? = some (.list (L.map .bytes))) (hm : m < L.length) (q : ∀ u ∈ L, P (.bytes u)) : subQ (.obj j) (.int (m : Int)) H P := by
  simp only [subQ, atL, h]
  refine onS_mk (c := .bytes L[m]) ?_ (by omega) (q _ (List.getElem_mem hm))
  rw [Int.toNat_natCast, List.getElem?_map, List.getElem?_eq_getElem hm]; rfl
theorem d_pick {L : List (List UInt8)} {lim : Int} (hP : Pot H p c n) (hL : lim = L.length) (h1 : 1 ≤ lim) (h2 : lim < 1000) (hn : n ≤ 1000) (h : ∀ H' u, Pot H' p c (n + 1) → u ∈ L → Q (.bytes u) H') :
    iterF tab (k + 1) hd 449 [.obj p, .int lim] (H ++ [.list (L.map .bytes)]) (fun v h => subQ (.obj H.length) v h fun v => Q v h) X := by
  have lp : p < H.length := by obtain ⟨_, _, _, a, _⟩ := hP; exact (List.getElem?_eq_some_iff.mp a).1
  have lc : c < H.length := by obtain ⟨_, _, _, _, a, _⟩ := hP; exact (List.getElem?_eq_some_iff.mp a).1
  refine d_449 hP.app h1 h2 hn fun H' m hP' f hm => ?_
  refine sub_pick (f _ _ (by omega) (by omega) getC) (by omega) fun u hu => h H' u hP' hu
theorem gaps_pc : ∀ u ∈ gapsL, Pc u 0 11 := fun u hu => pc_of (by revert u; decide)
theorem heads_pc : ∀ u ∈ headsL, Pc u 0 15 ∧ 0 < u.length := fun u hu => ⟨pc_of (by revert u; decide), by revert u; decide⟩
theorem names_pc : ∀ u ∈ namesL, Pc u 0 7 := fun u hu => pc_of (by revert u; decide)
theorem worths_pc : ∀ u ∈ worthsL, Pc u 1 11 := fun u hu => pc_of (by revert u; decide)
theorem d_484 (hP : Pot H p c n) (hn : n ≤ 1000) (h : ∀ H' u, Pot H' p c (n + 1) → Pc u 0 11 → Q (.bytes u) H') : iterF tab (k + 2) hd 484 [.obj p] H Q X := by
  rw [at_484, b_l_gap]
  (repeat (simp_all_arith; simp_arith! [↓binQ, ↓c_456]))
  exact d_pick hP rfl (by decide) (by decide) hn fun H' u hP' hu => h H' u hP' (gaps_pc u hu)
end
end Mine
end

noncomputable section
open PySem PySem.W PyProof.Rows PySem.Calls PySem.Spec
set_option maxRecDepth 100000
set_option maxHeartbeats 1000000
namespace Mine
theorem Pc.mono {u : List UInt8} {t l t' l' : Nat} (h : Pc u t l) (a : t ≤ t') (b : l ≤ l') : Pc u t' l' :=
  ⟨h.lo, fun k => by have := h.hi k; omega, by have := h.tot; omega, h.ok, by have := h.len; omega⟩
theorem forQ_rng {body : AV → St → (St → Prop) → Prop} {N : St → Prop} (J : Nat) (I : Nat → St → Prop) (step : ∀ j lo st (K : St → Prop), j < J → I j st → (∀ st', I (j + 1) st' → K st') → body (.int lo) st K) : ∀ (m j : Nat) (lo : Int) (st : St), j + m ≤ J → I j st → (∀ st', I (j + m) st' → N st') → forQ body (fun _ => True) N (rangeL lo m) st
  | 0, j, lo, st, _, h, fin => fin st h
  | m + 1, j, lo, st, hj, h, fin => step j lo st _ (by omega) h fun st' h' => ⟨trivial, forQ_rng J I step m (j + 1) (lo + 1) st' (by omega) h' fun st' h'' => fin st' (by rw [show j + (m + 1) = j + 1 + m from by omega]; exact h'')⟩
theorem rngN {m : Nat} {P : List AV → Prop} (h : m ≤ 1000) (q : P (rangeL 0 m)) : rangeQ [.int (m : Int)] P := ⟨by omega, by omega, q⟩
section
variable {k : Nat} {hd : Bool} {hp H : Hp} {Q : AV → Hp → Prop} {X : Nat → Hp → Prop} {o w : List UInt8} {a j i p c n : Nat} {t s : Str} {Φ : Fn}
theorem addB {x y : List UInt8} {P : AV → Prop} : binQ .Add (.bytes x) (.bytes y) P = (x.length + y.length ≤ 16777216 ∧ P (.bytes (x ++ y))) := rfl
theorem addI {x y : Int} {P : AV → Prop} : binQ .Add (.int x) (.int y) P = P (.int (x + y)) := rfl
theorem semi_pc : Pc [59] 0 1 := pc_of (by decide)
theorem eq_pc : Pc [61] 0 1 := pc_of (by decide)
noncomputable def damL : List UInt8 := [40, 41, 34, 59, 61, 47, 92, 32, 97]
theorem dam_pc : Pc damL 10 9 := pc_of (by decide)
theorem dam_ok {d : UInt8} (h : d ∈ damL) : okc d := dam_pc.ok d h
theorem u8_back (d : UInt8) : (((d.toNat : Nat) : Int).toNat).toUInt8 = d := by
  rw [Int.toNat_natCast]; simp
theorem len_app {u v : List UInt8} {a b : Nat} (h : u.length ≤ a) (k : v.length ≤ b) : (u ++ v).length ≤ a + b := by
  rw [List.length_append]; exact Nat.add_le_add h k
theorem len_fit {u v : List UInt8} {a b : Nat} (h : u.length ≤ a) (k : v.length ≤ b) (c : a + b ≤ 16777216) : u.length + v.length ≤ 16777216 := Nat.le_trans (Nat.add_le_add h k) c
theorem len_pos {u v : List UInt8} (h : 0 < u.length) : 0 < (u ++ v).length := by
  rw [List.length_append]; exact Nat.lt_of_lt_of_le h (Nat.le_add_right _ _)
theorem ten_le {j c : Nat} (h : j < 3) (k : c ≤ 100) : 10 + 10 * j + c ≤ 1000 :=
  Nat.add_le_add (Nat.add_le_add_left (Nat.mul_le_mul_left 10 (Nat.le_of_lt h)) 10) (Nat.le_trans k (by decide) : c ≤ 960)
theorem d_491 (hP : Pot H p c 0) (h : ∀ H' o, Gd o → Q (.bytes o) H') : iterF tab (k + 3) false 491 [.obj p] H Q X := by
  rw [at_491, b_l_octets]
  (simp_all_arith; simp_arith! [addB])
  refine d_484 hP (by omega) fun H1 u1 hP1 q1 => ?_
  simp_arith! [addB, ↓c_463]
  refine d_pick (L := headsL) hP1 rfl (by decide) (by decide) (by omega) fun H2 u2 hP2 hu2 => ?_
  obtain ⟨q2, z2⟩ := heads_pc u2 hu2
  simp_arith! [addB]
  refine ⟨len_fit q1.len q2.len (by decide), ?_⟩
  refine d_484 hP2 (by omega) fun H3 u3 hP3 q3 => ?_
  have q12 := q1.app q2
  simp_arith! [addB]
  refine ⟨len_fit q12.len q3.len (by decide), ?_⟩
  have q4 := q12.app q3
  have z4 : 0 < (u1 ++ u2 ++ u3).length := by rw [List.length_append, List.length_append]; omega
  generalize u1 ++ u2 ++ u3 = u at q4 z4 ⊢
  (simp_all_arith; rw [wpS_forR])
  refine ⟨rfl, ?_⟩
  simp_arith! [addB]
  refine d_449 hP3 (by decide) (by decide) (by omega) fun H4 m hP4 _ hm => ?_
  have hm4 : m ≤ 3 := by omega
  simp_arith! [addB]
  refine rngN (by omega) (forQ_rng 3 (fun j st => ∃ H' u vt, st = ⟨[some (.obj p), some (.bytes u), vt, none, none], H'⟩ ∧ Pot H' p c (10 + 10 * j) ∧ Pc u j (37 + 64 * j) ∧ 0 < u.length) ?_ m 0 0 _ (by omega) ⟨H4, u, none, rfl, hP4.mono (by omega), q4.mono (by omega) (by omega), z4⟩ ?_)
  · rintro j lo _ K jb ⟨H5, u, vt, rfl, hP5, q5, z5⟩ hK
    have ul : u.length ≤ 229 := Nat.le_trans q5.len (Nat.add_le_add_left (Nat.mul_le_mul_left 64 (Nat.le_of_lt jb)) 37)
    (simp_all_arith; simp_arith! [addB])
    have q6 := q5.app semi_pc
    refine ⟨len_fit ul semi_pc.len (by decide), ?_⟩
    have s6 := len_app ul semi_pc.len
    refine d_484 hP5 (by omega) fun H6 g1 hP6 qg1 => ?_
    have q7 := q6.app qg1
    simp_arith! [addB]
    refine ⟨len_fit s6 qg1.len (by decide), ?_⟩
    have s7 := len_app s6 qg1.len
    have z7 : 0 < (u ++ [59] ++ g1).length := len_pos (len_pos z5)
    generalize u ++ [59] ++ g1 = u7 at q7 z7 s7 ⊢
    (simp_all_arith; simp_arith! [addB])
    refine d_449 hP6 (by decide) (by decide) (by omega) fun H7 dm hP7 _ hdm => ?_
    simp_arith! [addB]
    refine ifB_mk (fun _ => ?_) fun _ => ?_
    · (simp_all_arith; simp_arith! [addB, c_470])
      refine d_pick (L := namesL) hP7 rfl (by decide) (by decide) (by omega) fun H8 nm hP8 hnm => ?_
      have qn := names_pc nm hnm
      have q8 := q7.app qn
      simp_arith! [addB]
      refine ⟨len_fit s7 qn.len (by decide), ?_⟩
      have s8 := len_app s7 qn.len
      refine d_484 hP8 (by omega) fun H9 g2 hP9 qg2 => ?_
      have q9 := q8.app qg2
      simp_arith! [addB]
      refine ⟨len_fit s8 qg2.len (by decide), ?_⟩
      have s9 := len_app s8 qg2.len
      have q10 := q9.app eq_pc
      refine ⟨len_fit s9 eq_pc.len (by decide), ?_⟩
      have s10 := len_app s9 eq_pc.len
      refine d_484 hP9 (by omega) fun H10 g3 hP10 qg3 => ?_
      have q11 := q10.app qg3
      simp_arith! [addB]
      refine ⟨len_fit s10 qg3.len (by decide), ?_⟩
      have s11 := len_app s10 qg3.len
      have z11 : 0 < (u7 ++ nm ++ g2 ++ [61] ++ g3).length := len_pos (len_pos (len_pos (len_pos z7)))
      generalize u7 ++ nm ++ g2 ++ [61] ++ g3 = u11 at q11 z11 s11 ⊢
      (simp_all_arith; simp_arith! [addB, c_477])
      refine d_pick (L := worthsL) hP10 rfl (by decide) (by decide) (by omega) fun H11 wo hP11 hwo => ?_
      have qw := worths_pc wo hwo
      have q12 := q11.app qw
      simp_arith! [addB]
      refine ⟨len_fit s11 qw.len (by decide), ?_⟩
      have s12 := len_app s11 qw.len
      refine d_484 hP11 (by omega) fun H12 g4 hP12 qg4 => ?_
      have q13 := q12.app qg4
      simp_arith! [addB]
      refine ⟨len_fit s12 qg4.len (by decide), ?_⟩
      exact hK _ ⟨H12, _, _, rfl, hP12.mono (by omega), q13.mono (by omega) (by omega), len_pos (len_pos z11)⟩
    · try simp_arith! [addB]
      exact hK _ ⟨H7, _, _, rfl, hP7.mono (by omega), q7.mono (by omega) (by omega), z7⟩
  · rintro _ ⟨H5, u, vt, rfl, hP5, q5, z5⟩
    have hP5 := hP5.mono (show 10 + 10 * (0 + m) ≤ 40 by omega)
    have q5 : Pc u 3 229 := q5.mono (by omega) (by omega)
    (simp_all_arith; simp_arith! [addB])
    refine d_449 hP5 (by decide) (by decide) (by omega) fun H6 wy hP6 _ hw => ?_
    try simp_arith! [addB]
    have ul := q5.len
    simp_all_arith
    simp_arith! [addB, cmpQ, eqQ, ieq]
    refine ifB_mk (fun e0 => ?_) fun e0 => ?_
    · (simp_all_arith; simp_arith! [addB])
      refine d_449 hP6 (by omega) (by omega) (by omega) fun H7 m hP7 _ hm => ?_
      simp_arith! [addB, cut_pre]
      (repeat (simp_all_arith; simp_arith []))
      exact h _ _ (gd_take q5)
    · (simp_all_arith; simp_arith! [addB, ieq])
      refine ifB_mk (fun e1 => ?_) fun e1 => ?_
      · (simp_all_arith; simp_arith! [addB])
        refine d_449 hP6 (by omega) (by omega) (by omega) fun H7 m hP7 _ hm => ?_
        have hmu : m < u.length := by omega
        try simp_arith! [addB]
        (simp_all_arith; simp_arith! [addB, cut_pre])
        refine d_449 hP7 (by decide) (by decide) (by omega) fun H8 r hP8 _ hr => ?_
        have hr9 : r < damL.length := by show r < 9; omega
        have gd : ([40, 41, 34, 59, 61, 47, 92, 32, 97] : List UInt8)[r]? = some damL[r] := List.getElem?_eq_getElem (l := damL) hr9
        have od := dam_ok (List.getElem_mem hr9)
        generalize damL[r] = d at gd od
        simp_arith! [addB, ↓addI, ↓subQ, ↓onS, Int.toNat_natCast, gd, getC]
        refine ⟨by omega, [(d.toNat : Int)], rfl, fun n hn => ?_, ?_⟩
        · rw [List.mem_singleton.mp hn]; exact byte_rng d
        simp only [↓addB, ↓addI, cut_pre, List.map_cons, List.map_nil, u8_back, nat_succ, cut_suf, List.length_singleton]
        refine ⟨by rw [List.length_take]; omega, ?_, ?_⟩
        · rw [List.length_append, List.length_take, List.length_drop, List.length_singleton]; omega
        (repeat (simp_all_arith; simp_arith []))
        exact h _ _ (gd_set q5 hmu od)
      · (repeat (simp_all_arith; simp_arith []))
        exact h _ _ (gd_pc q5)
end
end Mine
end

noncomputable section
open PySem PySem.W PyProof.Rows PySem.Calls PySem.Spec
set_option maxRecDepth 100000
set_option maxHeartbeats 1000000
namespace Mine
section
variable {k : Nat} {hd : Bool} {hp H : Hp} {Q : AV → Hp → Prop} {X : Nat → Hp → Prop} {o w : List UInt8} {a j i p c n : Nat} {t s : Str} {Φ : Fn}
set_option backward.eqns.nonrecursive false in
noncomputable def skR2 (H : Hp) (Q : AV → Hp → Prop) : Option (List UInt8 × List UInt8 × Prs) → Prop
  | none => ∀ H' j d n, Kp H H' → H'[j]? = some (kd "text" "plain" d) → H'[d]? = some (plD n) → Q (.obj j) H'
  | some (w, v, ps) => ∀ H' i j n, (∀ p ∈ ps, p.2.length ≤ 1000) → Kp H H' → H'[j]? = some (.dict (pl (fun w => .str (gs w)) ps) n) → H'[i]? = some (kd (small_ w) (small_ v) j) → Q (.obj i) H'
theorem d_437n (h : ∀ H' j d n, Kp H H' → H'[j]? = some (kd "text" "plain" d) → H'[d]? = some (plD n) → Q (.obj j) H') : iterF tab (k + 4) hd 437 [.none] H Q X := by
  rw [at_437, b_read_kind]
  (repeat (simp_all_arith; simp_arith []))
  exact d_324 fun n => h _ _ _ n (Kp.app.trans Kp.app) getC (getL getC)
theorem d_437 (G : Gd o) (h : skR2 H Q (rd2 o)) : iterF tab (k + 8) false 437 [.bytes o] H Q X := by
  rw [at_437, b_read_kind]
  (simp_all_arith; simp_arith [])
  (simp_all_arith; rw [wpS_tr])
  refine ⟨rfl, ?_⟩
  (simp_all_arith; simp_arith [])
  refine d_430 G ?_
  cases e : rd2 o with
  | none =>
    rw [e] at h
    intro H' k1
    refine ⟨rfl, ?_⟩
    (repeat (simp_all_arith; simp_arith []))
    exact d_324 fun n => h _ _ _ n (k1.trans (Kp.app.trans Kp.app)) getC (getL getC)
  | some q =>
    obtain ⟨w, v, ps⟩ := q
    rw [e] at h
    exact h
theorem eq_ss {x y : Str} {P : Bool → Prop} : eqQ (.str x) (.str y) H P = P (x == y) := rfl
theorem told_eq {P : Bool → Prop} : eqQ (toldV "text" "plain") (toldV "text" "plain") H P = P true := propext ⟨fun h => h.2.2.2, fun h => ⟨by decide +kernel, by decide +kernel, by decide +kernel, h⟩⟩
theorem two_strs {a b c d : Str} : ([a, b] == [c, d]) = (a == c && b == d) := by
  rw [Bool.eq_iff_iff]; simp
theorem eq_strs {l m : List Str} {i j : Nat} {P : Bool → Prop} (h1 : H[i]? = some (.list (l.map .str))) (h2 : H[j]? = some (.list (m.map .str))) (hl : ∀ s ∈ l, PyData.strOk s = true) (hm : ∀ s ∈ m, PyData.strOk s = true) (h : P (l == m)) : eqQ (.obj i) (.obj j) H P := by
  simp only [eqQ, isO, atL, eqL, h1, h2, pyL_strs, onO]
  rw [eqv_strs]
  exact ⟨lay_strs l hl, lay_strs m hm, dep_strs l, h⟩
theorem three_bools {a b c : Bool} {P : Bool → Prop} (h : P true) : eqQ (.tup [.bool a, .bool b, .bool c]) (.tup [.bool a, .bool b, .bool c]) H P :=
  ⟨rfl, rfl, by simp [PyData.depthAll, PyData.depth], by cases a <;> cases b <;> cases c <;> exact h⟩
noncomputable def lawB : Ss := dropSs 6 b_law
noncomputable def lawE : Ss := dropSs 9 b_law
noncomputable def trueQ (v : AV) (_ : St) : Prop := v = .bool true
theorem law_end {v4 : Option AV} {p i j j' kk n n' : Nat} {w v : List UInt8} {ps : Prs} (hi : H[i]? = some (.list [.str (small_ w), .str (small_ v)])) (hj : H[j]? = some (.dict (pl .bytes ps) n)) (hk : H[kk]? = some (kd (small_ w) (small_ v) j')) (hj' : H[j']? = some (.dict (pl (fun w => .str (gs w)) ps) n'))
    (hl : ps.length < 60) (ho : ∀ p ∈ ps, p.2.length ≤ 1000) {X : QX} : wpSs (iterF tab (k + 2)) false lawE ⟨[none, some (.obj p), some (.bytes o), some (.tup [.obj i, .obj j]), v4, some (.obj kk), none], H⟩ (fun _ => False) trueQ (fun _ => False) X := by
  show wpSs _ _ (.cons _ (.cons _ (.cons _ .nil))) _ _ _ _ _
  have t0 : (0 : Int).toNat = 0 := rfl
  have t1 : (1 : Int).toNat = 1 := rfl
  have ok2 : ∀ s ∈ ([small_ w, small_ v] : List Str), PyData.strOk s = true := fun s hs => by
    rcases List.mem_cons.mp hs with rfl | hs
    · exact small_ok w
    · rw [List.mem_singleton.mp hs]; exact small_ok v
  simp_all_arith
  simp -dsimp only [↓wS0, ↓wS1, ↓wS2, ↓wS3, ↓wS4, ↓wS5, ↓wS6, ↓wS7, ↓wS8, ↓wS9, ↓wS10, ↓wS11, ↓wS12, wpSs_nil, ↓wq0, ↓wq1, ↓wq2, ↓wq3, ↓wq4, ↓wq5, ↓wq6, ↓wq7, ↓wq8, ↓wq9, ↓wq10, ↓wq11, ↓wq12, ↓wq13, ↓wq14, ↓wq15, ↓wq16, ↓wq17, ↓wq18, ↓wq19, ↓wq20, ↓wq21, ↓wh22, ↓wh23, ↓hold_, ↓wq24, ↓wq25, ↓wq26, ↓wq27, ↓wq28, ↓wq29, ↓wq30, ↓wqs0, ↓wqs1, finQ, ahead, onO, isI, isSt, isO, isY, isN, isT, atL, atD, List.getElem?_cons_zero, List.getElem?_cons_succ, cmpQ, isB, isNone, ifB_ff, ifB_tt, subQ, onS, new, ↓kd_3 hk, ↓kd_4 hk, t0, t1, Option.some.injEq, exists_eq_left', kv0, kv1, kv2, kv3, kv4, Int.reduceLE, true_and]
  refine eq_self_strs (l := [small_ w, small_ v]) getC (getL hi) ok2 ?_
  have k1 : Kp H (H ++ [AO.list [AV.str (small_ w), AV.str (small_ v)]]) := Kp.app
  generalize H ++ [AO.list [AV.str (small_ w), AV.str (small_ v)]] = H1 at k1 ⊢
  simp only [Bool.not_true, ifB_ff, ↓kd_5 (k1 _ _ hk)]
  refine d_534 (k1 _ _ hj') (k1 _ _ hj) hl ho fun H2 k2 => ?_
  have k2 := k1.trans k2
  simp_arith [Bool.not_true]
  simp_all_arith
  simp -dsimp only [↓wS0, ↓wS1, ↓wS2, ↓wS3, ↓wS4, ↓wS5, ↓wS6, ↓wS7, ↓wS8, ↓wS9, ↓wS10, ↓wS11, ↓wS12, wpSs_nil, ↓wq0, ↓wq1, ↓wq2, ↓wq3, ↓wq4, ↓wq5, ↓wq6, ↓wq7, ↓wq8, ↓wq9, ↓wq10, ↓wq11, ↓wq12, ↓wq13, ↓wq14, ↓wq15, ↓wq16, ↓wq17, ↓wq18, ↓wq19, ↓wq20, ↓wq21, ↓wh22, ↓wh23, ↓hold_, ↓wq24, ↓wq25, ↓wq26, ↓wq27, ↓wq28, ↓wq29, ↓wq30, ↓wqs0, ↓wqs1, finQ, ahead, onO, isI, isSt, isO, isY, isN, isT, atL, atD, List.getElem?_cons_zero, List.getElem?_cons_succ, cmpQ, isB, subQ, onS, new, t0, Option.some.injEq, exists_eq_left', kv0, kv1, kv2, kv3, kv4, Int.reduceLE, true_and]
  refine eq_strs (l := [small_ w, small_ v]) (m := ["message", "rfc822"]) (getL (k2 _ _ hi)) getC ok2 (by decide +kernel) ?_
  have k3 : Kp H (H2 ++ [AO.list [AV.str "message", AV.str "rfc822"]]) := k2.trans Kp.app
  generalize H2 ++ [AO.list [AV.str "message", AV.str "rfc822"]] = H3 at k3 ⊢
  simp_all_arith
  have hi3 := k3 _ _ hi
  have hk3 := k3 _ _ hk
  simp -dsimp only [↓wS0, ↓wS1, ↓wS2, ↓wS3, ↓wS4, ↓wS5, ↓wS6, ↓wS7, ↓wS8, ↓wS9, ↓wS10, ↓wS11, ↓wS12, wpSs_nil, ↓wq0, ↓wq1, ↓wq2, ↓wq3, ↓wq4, ↓wq5, ↓wq6, ↓wq7, ↓wq8, ↓wq9, ↓wq10, ↓wq11, ↓wq12, ↓wq13, ↓wq14, ↓wq15, ↓wq16, ↓wq17, ↓wq18, ↓wq19, ↓wq20, ↓wq21, ↓wh22, ↓wh23, ↓hold_, ↓wq24, ↓wq25, ↓wq26, ↓wq27, ↓wq28, ↓wq29, ↓wq30, ↓wqs0, ↓wqs1, finQ, ahead, onO, isI, isSt, isO, isY, isN, isT, atL, atD, List.getElem?_cons_zero, List.getElem?_cons_succ, cmpQ, eq_ss, isB, subQ, onS, new, t0, Option.some.injEq, exists_eq_left', kv0, kv1, kv2, kv3, kv4, Int.reduceLE, true_and, ↓kd_16 hk3, ↓kd_17 hk3, ↓kd_18 hk3, ↓c_296 hk3, ↓c_303 hk3, ↓c_310 hk3, hi3, St.set, List.set_cons_zero, List.set_cons_succ]
  rw [two_strs]
  exact three_bools rfl
theorem rdp_some {l w : List UInt8} {ps : Prs} (e : rdp l = some (w, ps)) : (skp (l.dropWhile pT)).bind (prs 1001 []) = some ps := by
  unfold rdp at e
  split at e
  · cases e
  · obtain ⟨q, h1, h2⟩ := Option.map_eq_some_iff.mp e
    cases h2; exact h1
theorem rd1_len {w : List UInt8} {ps : Prs} (G : Gd o) (e : rd1 o = some (w, ps)) : ps.length < 60 := by
  obtain ⟨l, h1, h2⟩ := Option.bind_eq_some_iff.mp e
  exact prs_len (r := []) G ((List.dropWhile_suffix _).trans (skp_suf _ _ _ (Nat.le_refl _) h1)) (rdp_some h2)
theorem rd2_len {w v : List UInt8} {ps : Prs} (G : Gd o) (e : rd2 o = some (w, v, ps)) : ps.length < 60 := by
  obtain ⟨l, h1, h2⟩ := Option.bind_eq_some_iff.mp e
  split at h2
  · cases h2
  · obtain ⟨l2, h3, h4⟩ := Option.bind_eq_some_iff.mp h2
    cases l2 with
    | nil => cases h4
    | cons c r =>
      rw [rdq_cons] at h4
      split at h4
      · obtain ⟨q, h5, h6⟩ := Option.map_eq_some_iff.mp h4
        cases h6
        obtain ⟨l3, h7, h8⟩ := Option.bind_eq_some_iff.mp h5
        have s1 := skp_suf _ _ _ (Nat.le_refl _) h1
        have s2 := ((skp_suf _ _ _ (Nat.le_refl _) h3).trans (List.dropWhile_suffix _)).trans s1
        have s3 := ((skp_suf _ _ _ (Nat.le_refl _) h7).trans (List.suffix_cons _ _)).trans s2
        exact prs_len (r := []) G ((List.dropWhile_suffix _).trans s3) (rdp_some h8)
      · cases h4
theorem law_mid (G : Gd o) {v3 v4 : Option AV} {p : Nat} {X : QX} : wpSs (iterF tab (k + 9)) false lawB ⟨[none, some (.obj p), some (.bytes o), v3, v4, none, none], H⟩ (fun _ => False) trueQ (fun _ => False) X := by
  show wpSs _ _ (.cons _ (.cons _ (.cons _ lawE))) _ _ _ _ _
  (simp_all_arith; simp_arith [])
  refine d_529b G ?_
  cases e : rd2 o with
  | none =>
    intro H1 _
    (simp_all_arith; simp_arith [])
    refine d_437 G ?_
    rw [e]
    intro H2 kk d n _ hk hd
    try simp_arith []
    (simp_all_arith; rw [wpS_tr])
    refine ⟨rfl, ?_⟩
    (simp_all_arith; simp_arith [])
    refine d_430 G ?_
    rw [e]
    intro H3 k3
    refine ⟨rfl, ?_⟩
    simp_all_arith
    simp -dsimp only [↓wS0, ↓wS1, ↓wS2, ↓wS3, ↓wS4, ↓wS5, ↓wS6, ↓wS7, ↓wS8, ↓wS9, ↓wS10, ↓wS11, ↓wS12, wpSs_nil, ↓wq0, ↓wq1, ↓wq2, ↓wq3, ↓wq4, ↓wq5, ↓wq6, ↓wq7, ↓wq8, ↓wq9, ↓wq10, ↓wq11, ↓wq12, ↓wq13, ↓wq14, ↓wq15, ↓wq16, ↓wq17, ↓wq18, ↓wq19, ↓wq20, ↓wq21, ↓wh22, ↓wh23, ↓hold_, ↓wq24, ↓wq25, ↓wq26, ↓wq27, ↓wq28, ↓wq29, ↓wq30, ↓wqs0, ↓wqs1, finQ, ahead, onO, isI, isSt, isO, isY, isN, isT, atL, atD, List.getElem?_cons_zero, List.getElem?_cons_succ, cmpQ, isB, isNone, truthQ, ifB_tt, kv0, kv1, kv2, kv3, kv4, ↓kd_15 (k3 _ _ hk)]
    refine d_289 (k3 _ _ hk) (k3 _ _ hd) fun g => ?_
    refine d_437n fun H4 j4 d4 n4 k4 hk4 hd4 => ?_
    simp -dsimp only [↓wS0, ↓wS1, ↓wS2, ↓wS3, ↓wS4, ↓wS5, ↓wS6, ↓wS7, ↓wS8, ↓wS9, ↓wS10, ↓wS11, ↓wS12, wpSs_nil, ↓wq0, ↓wq1, ↓wq2, ↓wq3, ↓wq4, ↓wq5, ↓wq6, ↓wq7, ↓wq8, ↓wq9, ↓wq10, ↓wq11, ↓wq12, ↓wq13, ↓wq14, ↓wq15, ↓wq16, ↓wq17, ↓wq18, ↓wq19, ↓wq20, ↓wq21, ↓wh22, ↓wh23, ↓hold_, ↓wq24, ↓wq25, ↓wq26, ↓wq27, ↓wq28, ↓wq29, ↓wq30, ↓wqs0, ↓wqs1, finQ, ahead, onO, isI, isSt, isO, isY, isN, isT, atL, atD, List.getElem?_cons_zero, List.getElem?_cons_succ, cmpQ, isB, isNone, truthQ, ifB_tt, kv0, kv1, kv2, kv3, kv4, ↓kd_15 hk4]
    refine d_289 hk4 hd4 fun g' => ?_
    rw [told_eq, ifB_tt]
    refine ⟨trivial, trivial, trivial, ?_⟩
    change eqQ (toldV "text" "plain") (toldV "text" "plain") _ _
    rw [told_eq]
    rfl
  | some q =>
    obtain ⟨w, v, ps⟩ := q
    intro H1 i j n _ hi hj
    (simp_all_arith; simp_arith [])
    refine d_437 G ?_
    rw [e]
    intro H2 kk jj n2 _ k2 hjj hk
    try simp_arith []
    (simp_all_arith; rw [wpS_tr])
    refine ⟨rfl, ?_⟩
    (simp_all_arith; simp_arith [])
    refine d_430 G ?_
    rw [e]
    intro H3 _ _ _ l2 k3 _ _
    try simp_arith []
    have l1 := rd2_len G e
    exact law_end (k3 _ _ (k2 _ _ hi)) (k3 _ _ (k2 _ _ hj)) (k3 _ _ hk) (k3 _ _ hjj) l1 l2
theorem law_start {p c : Nat} (hP : Pot H p c 0) {X : QX} : wpSs (iterF tab (k + 9)) false (dropSs 1 b_law) ⟨[none, some (.obj p), none, none, none, none, none], H⟩ (fun _ => False) trueQ (fun _ => False) X := by
  show wpSs _ _ (.cons _ (.cons _ (.cons _ (.cons _ (.cons _ lawB))))) _ _ _ _ _
  (simp_all_arith; simp_arith [])
  refine d_491 hP fun H1 o G => ?_
  try simp_arith []
  (simp_all_arith; simp_arith [])
  have t0 : (0 : Int).toNat = 0 := rfl
  have t1 : (1 : Int).toNat = 1 := rfl
  refine d_529a G ?_
  cases e : rd1 o with
  | none =>
    intro H2 _
    try simp_arith []
    (simp_all_arith; rw [wpS_tr])
    refine ⟨rfl, ?_⟩
    (simp_all_arith; simp_arith [])
    refine d_423 G ?_
    rw [e]
    intro H3 _
    refine ⟨rfl, ?_⟩
    (simp_all_arith; simp_arith [])
    (simp_all_arith; simp_arith [show ((true : Bool) == true) = true from rfl, Bool.not_true])
    (simp_all_arith; simp_arith [Bool.not_true])
    exact law_mid G
  | some q =>
    obtain ⟨w, ps⟩ := q
    intro H2 i j n _ hi hj
    try simp_arith []
    (simp_all_arith; rw [wpS_tr])
    refine ⟨rfl, ?_⟩
    (simp_all_arith; simp_arith [])
    refine d_423 G ?_
    rw [e]
    intro H3 j3 n3 l2 k3 hj3
    try simp_arith []
    have l1 := rd1_len G e
    have hi3 := k3 _ _ hi
    have hj3' := k3 _ _ hj
    (simp_all_arith; simp_arith [show ((false : Bool) == false) = true from rfl, Bool.not_true])
    simp_all_arith
    simp -dsimp only [↓wS0, ↓wS1, ↓wS2, ↓wS3, ↓wS4, ↓wS5, ↓wS6, ↓wS7, ↓wS8, ↓wS9, ↓wS10, ↓wS11, ↓wS12, wpSs_nil, ↓wq0, ↓wq1, ↓wq2, ↓wq3, ↓wq4, ↓wq5, ↓wq6, ↓wq7, ↓wq8, ↓wq9, ↓wq10, ↓wq11, ↓wq12, ↓wq13, ↓wq14, ↓wq15, ↓wq16, ↓wq17, ↓wq18, ↓wq19, ↓wq20, ↓wq21, ↓wh22, ↓wh23, ↓hold_, ↓wq24, ↓wq25, ↓wq26, ↓wq27, ↓wq28, ↓wq29, ↓wq30, ↓wqs0, ↓wqs1, finQ, ahead, onO, isI, isSt, isO, isY, isN, isT, atL, atD, List.getElem?_cons_zero, List.getElem?_cons_succ, cmpQ, eqQ, isB, isNone, Bool.not_false, ifB_ff, ifB_tt, subQ, onS, t0, t1, hi3, Option.some.injEq, exists_eq_left', kv0, kv1, kv2, kv3, kv4, Int.reduceLE, true_and, List.map_cons, List.map_nil, beq_self_eq_true, Bool.not_true]
    refine d_534 hj3 hj3' l1 l2 fun H4 _ => ?_
    simp_arith [Bool.not_true]
    exact law_mid G
end
end Mine
end

noncomputable section
open PySem PySem.W PyProof.Rows PySem.Calls PySem.Spec
set_option maxRecDepth 100000
set_option maxHeartbeats 1000000
namespace Mine
section
variable {k : Nat} {hd : Bool} {hp H : Hp} {Q : AV → Hp → Prop} {X : QX} {N : St → Prop}
set_option backward.eqns.nonrecursive false in
noncomputable def absM (i : Int) : Int := Int.fmod (if i < 0 then -i else i) (10 ^ Int.toNat 400)
theorem pow_pos' : (0 : Int) < 10 ^ Int.toNat 400 := Int.pow_pos (by decide)
theorem absM_nn (i : Int) : 0 ≤ absM i := by
  unfold absM
  rw [Int.fmod_eq_emod_of_nonneg _ (Int.le_of_lt pow_pos')]
  exact Int.emod_nonneg _ (Int.ne_of_gt pow_pos')
theorem pot_rest {R : AV → St → Prop} {ci : Nat} {ns : List Int} (hR : ∀ v st', (∃ p c, v = .obj p ∧ Pot st'.hp p c 0) → R v st') (hc : H[ci]? = some (.list (ns.map .int))) : wpSs (iterF tab k) false (dropSs 1 b_l_pot) ⟨[none, none, some (.obj ci), none], H⟩ N R (fun _ => False) X := by
  show wpSs _ _ (.cons _ (.cons _ (.cons _ .nil))) _ _ _ _ _
  (simp_all_arith; simp_arith [])
  (simp_all_arith; rw [wpS_for1])
  refine ⟨rfl, ?_⟩
  simp only [↓wq2, ↓finQ, ↓iterQ, ↓onO, hc, List.getElem?_cons_zero, List.getElem?_cons_succ]
  refine forQ_inv AV.int (fun done st => ∃ v1 z, st = ⟨[none, v1, some (.obj ci), some (.int z)], H⟩ ∧ 0 ≤ z ∧ z < 2147483647) ns ⟨none, 1, rfl, by decide, by decide⟩ ?_ ?_ ?_
  · rintro done x rest _ K _ ⟨v1, z, rfl, z0, z1⟩ hK
    show wpSs _ _ _ _ _ _ _ _
    (simp_all_arith; simp_arith [])
    refine ⟨by unfold small; omega, by unfold small; omega, by decide, by decide, hK _ ⟨_, _, rfl, ?_, ?_⟩⟩
    · rw [Int.fmod_eq_emod_of_nonneg _ (by decide)]; exact Int.emod_nonneg _ (by decide)
    · rw [Int.fmod_eq_emod_of_nonneg _ (by decide)]; exact Int.emod_lt_of_pos _ (by decide)
  · rintro done _ ⟨v1, z, rfl, z0, z1⟩
    exact hc
  · rintro _ ⟨v1, z, rfl, z0, z1⟩
    simp_all_arith
    simp only [↓wS9, ↓wq14]
    rw [wqs1]
    simp only [↓wq29, ↓wq2, ↓finQ, ↓iterQ, ↓onO, hc, List.getElem?_cons_zero, List.getElem?_cons_succ]
    rw [comQ_map (H := H) (fun v => .int (absM (asI v))) (fun v => [some v, none, v1, some (.obj ci), some (.int z)]) hc (fun _ _ _ e => by rw [e]) _ _ _ rfl (by
      intro v hv st' e K'
      obtain ⟨i, _, rfl⟩ := List.mem_map.mp hv
      rw [e]
      simp_arith [asI_i]
      exact propext ⟨fun h => h.2.2, fun h => ⟨by unfold small; omega, Int.ne_of_gt pow_pos', h⟩⟩)]
    simp_arith [List.nil_append]
    refine hR _ _ ⟨_, H.length, rfl, z, 0, ns.map absM, getC, ?_, by simp, z0, z1, by decide, by decide, fun x hx => ?_⟩
    · rw [getL getC]; simp only [List.nil_append, List.map_map]; rfl
    · obtain ⟨i, _, rfl⟩ := List.mem_map.mp hx
      exact absM_nn i
end
end Mine
end
end

noncomputable section
open PySem PySem.W PyProof.Rows PySem.Calls PySem.Spec
set_option maxRecDepth 100000
set_option maxHeartbeats 4000000
namespace Mine
set_option backward.eqns.nonrecursive false in
noncomputable def fdAt (K : Frag) (f : Addr) : FuncData := match K.lookup f with
  | some ⟨_, _, .func fd, _⟩ => fd
  | _ => default
set_option backward.eqns.nonrecursive false in
noncomputable def isFn (K : Frag) (f : Addr) : Bool := match K.lookup f with
  | some ⟨_, _, .func _, _⟩ => true
  | _ => false
theorem fd_look {K : Frag} {f : Addr} (h : isFn K f = true) : ∃ oc od osl, K.lookup f = some ⟨oc, od, .func (fdAt K f), osl⟩ := by
  unfold isFn at h
  unfold fdAt
  cases e : K.lookup f with
  | none => rw [e] at h; exact nof h
  | some o =>
    rw [e] at h
    obtain ⟨a, b, dt, c⟩ := o
    cases dt with
    | func fd => exact ⟨a, b, c, rfl⟩
    | _ => exact nof h
set_option backward.eqns.nonrecursive false in
noncomputable def EntOk (K : Frag) (f : Nat) : FK → Prop
  | .fn n d k b => ∃ fd ps dvs, FnAt K f n d k b fd ps dvs
  | .cls i => ClsAt K f i
theorem lookup_mem' {κ α : Type} [BEq κ] [LawfulBEq κ] {l : List (κ × α)} {f : κ} {v : α} (h : l.lookup f = some v) : (f, v) ∈ l := by
  induction l with
  | nil => cases h
  | cons p r ih =>
    obtain ⟨x, u⟩ := p
    rw [List.lookup_cons] at h
    cases e : f == x with
    | true => rw [e] at h; cases h; rw [eq_of_beq e]; exact .head _
    | false => rw [e] at h; exact .tail _ (ih h)
theorem lookup_memS {α : Type} {l : List (Str × α)} {f : Str} {v : α} (h : l.lookup f = some v) : (f, v) ∈ l := lookup_mem' h
theorem tabOk_of {K : Frag} (h : ∀ e ∈ tabL, EntOk K e.1 e.2) : TabOk K tab := fun f => ⟨fun n d k b e => h (f, .fn n d k b) (lookup_mem' e), fun i e => h (f, .cls i) (lookup_mem' e)⟩
theorem fn_ent {K : Frag} {f n k : Nat} {b : Ss} (ps : List Str) (h1 : isFn K f = true) (h2 : (fdAt K f).body = .stmts (embSs b)) (h3 : codeIn K (fdAt K f).code (fdAt K f).qualname = true) (h4 : (fdAt K f).closure = []) (h5 : (fdAt K f).globals = mainGlobals) (h6 : (fdAt K f).builtins = builtinsNs)
    (h7 : ps.length = n) (h8 : ∀ vs : List Value, vs.length = n → ∀ S, peek K S (bindArgs (fdAt K f) ⟨vs, []⟩) = some (ps.zip vs)) (h9 : okF (fdAt K f).scope ps k b = true) : EntOk K f (.fn n [] k b) :=
  ⟨_, ps, [], { look := fd_look h1, body := h2, code := h3, clo := h4, glob := h5, blt := h6, len := h7, binds := fun vs a c S => (by
    have e : vs.length = n := by simp at c; omega
    rw [h8 vs e S]; simp), dflt := fun _ => .nil, ok := h9 }⟩
section
variable {P : List Value → Prop}
theorem all0 (H : P []) : ∀ vs : List Value, vs.length = 0 → P vs := fun vs h => by
  cases vs with
  | nil => exact H
  | cons a r => cases h
theorem all1 (H : ∀ a, P [a]) : ∀ vs : List Value, vs.length = 1 → P vs := fun vs h => by
  cases vs with
  | nil => cases h
  | cons a r => exact all0 (P := fun r => P (a :: r)) (H a) r (Nat.succ.inj h)
theorem all2 (H : ∀ a b, P [a, b]) : ∀ vs : List Value, vs.length = 2 → P vs := fun vs h => by
  cases vs with
  | nil => cases h
  | cons a r => exact all1 (P := fun r => P (a :: r)) (H a) r (Nat.succ.inj h)
theorem all3 (H : ∀ a b c, P [a, b, c]) : ∀ vs : List Value, vs.length = 3 → P vs := fun vs h => by
  cases vs with
  | nil => cases h
  | cons a r => exact all2 (P := fun r => P (a :: r)) (H a) r (Nat.succ.inj h)
theorem all4 (H : ∀ a b c d, P [a, b, c, d]) : ∀ vs : List Value, vs.length = 4 → P vs := fun vs h => by
  cases vs with
  | nil => cases h
  | cons a r => exact all3 (P := fun r => P (a :: r)) (H a) r (Nat.succ.inj h)
theorem all12 (H1 : ∀ a, P [a]) (H2 : ∀ a b, P [a, b]) : ∀ vs : List Value, vs.length ≤ 2 → 2 ≤ vs.length + 1 → P vs := fun vs h h' =>
  (Nat.eq_or_lt_of_le (Nat.le_of_succ_le_succ h')).elim (fun e => all1 H1 vs e.symm) fun a => all2 H2 vs (Nat.le_antisymm h a)
theorem all24 (H2 : ∀ a b, P [a, b]) (H3 : ∀ a b c, P [a, b, c]) (H4 : ∀ a b c d, P [a, b, c, d]) : ∀ vs : List Value, vs.length ≤ 4 → 4 ≤ vs.length + 2 → P vs := fun vs h h' =>
  (Nat.eq_or_lt_of_le (Nat.le_of_succ_le_succ (Nat.le_of_succ_le_succ h'))).elim (fun e => all2 H2 vs e.symm) fun a => (Nat.eq_or_lt_of_le a).elim (fun e => all3 H3 vs e.symm) fun b => all4 H4 vs (Nat.le_antisymm h b)
end
theorem fn_entd {K : Frag} {f n k : Nat} {b : Ss} (ps : List Str) (d : List AV) (dvs : List Value) (h1 : isFn K f = true) (h2 : (fdAt K f).body = .stmts (embSs b)) (h3 : codeIn K (fdAt K f).code (fdAt K f).qualname = true) (h4 : (fdAt K f).closure = []) (h5 : (fdAt K f).globals = mainGlobals) (h6 : (fdAt K f).builtins = builtinsNs)
    (h7 : ps.length = n) (h8 : ∀ vs : List Value, vs.length ≤ n → n ≤ vs.length + d.length → ∀ S, peek K S (bindArgs (fdAt K f) ⟨vs, []⟩) = some (ps.zip (vs ++ dvs.drop (vs.length + d.length - n)))) (hd : ∀ W, VRs W d dvs) (h9 : okF (fdAt K f).scope ps k b = true) : EntOk K f (.fn n d k b) :=
  ⟨_, ps, dvs, { look := fd_look h1, body := h2, code := h3, clo := h4, glob := h5, blt := h6, len := h7, binds := h8, dflt := hd, ok := h9 }⟩
set_option backward.eqns.nonrecursive false in
noncomputable def itemsAt (K : Frag) (a : Addr) : List Value := match K.lookup a with
  | some ⟨_, _, .seq vs _, _⟩ => vs.toList
  | _ => []
set_option backward.eqns.nonrecursive false in
noncomputable def dfAt (K : Frag) (f : Addr) : List Value := match (fdAt K f).defaults with
  | .ref a => itemsAt K a
  | _ => []
set_option backward.eqns.nonrecursive false in
noncomputable def vrB (a : AV) (v : Value) : Bool := match a with
  | .int i => (match v with
      | .int j _ => i == j
      | _ => false)
  | .str s => (match v with
      | .str t _ => s == t && decide (s.length ≤ 1000)
      | _ => false)
  | .bytes b => (match v with
      | .bytes c _ => b == c.toList && decide (b.length ≤ 1000)
      | _ => false)
  | _ => false
set_option backward.eqns.nonrecursive false in
noncomputable def vrsB (l : List AV) (vs : List Value) : Bool := match l, vs with
  | [], [] => true
  | a :: r, v :: s => vrB a v && vrsB r s
  | _, _ => false
theorem conr_of {K : Frag} {τ : List (Addr × List Value)} {a : AV} {v : Value} (h : vrB a v = true) : ConR K τ a v := by
  cases a with
  | int i =>
    cases v with
    | int j t => rw [eq_of_beq (show (i == j) = true from h)]; exact .int _ _
    | _ => exact nof h
  | str s =>
    cases v with
    | str t u =>
      obtain ⟨e, hz⟩ := Bool.and_eq_true_iff.mp (show (s == t && decide (s.length ≤ 1000)) = true from h)
      obtain rfl := eq_of_beq e
      exact .str _ _ (of_decide_eq_true hz)
    | _ => exact nof h
  | bytes b =>
    cases v with
    | bytes c u =>
      obtain ⟨e, hz⟩ := Bool.and_eq_true_iff.mp (show (b == c.toList && decide (b.length ≤ 1000)) = true from h)
      obtain rfl := eq_of_beq e
      exact .bytes _ _ (of_decide_eq_true hz)
    | _ => exact nof h
  | _ => exact nof h
theorem vr_of {W : Wd} {a : AV} {v : Value} (h : vrB a v = true) : VR W a v := conR_ok (K := []) (τ := []) (fun _ h => nomatch h) (conr_of h)
theorem vrs_of {W : Wd} {l : List AV} {vs : List Value} (h : vrsB l vs = true) : VRs W l vs := by
  induction l generalizing vs with
  | nil =>
    cases vs with
    | nil => exact .nil
    | cons _ _ => exact nof h
  | cons a r ih =>
    cases vs with
    | nil => exact nof h
    | cons v s =>
      obtain ⟨x, y⟩ := Bool.and_eq_true_iff.mp (show (vrB a v && vrsB r s) = true from h)
      exact .cons (vr_of x) (ih y)
variable (p : Params)
theorem e_166 : EntOk (KZ p) 166 (.fn 1 [] 1 b_lower_code) :=
  fn_ent ["code"] (by kernel_rfl) (by kernel_rfl) (by kernel_rfl) (by kernel_rfl) (by kernel_rfl) (by kernel_rfl) rfl (all1 fun a S => by kernel_rfl) (by kernel_rfl)
theorem e_171 : EntOk (KZ p) 171 (.fn 1 [] 1 b_lower) :=
  fn_ent ["octets"] (by kernel_rfl) (by kernel_rfl) (by kernel_rfl) (by kernel_rfl) (by kernel_rfl) (by kernel_rfl) rfl (all1 fun a S => by kernel_rfl) (by kernel_rfl)
theorem e_198 : EntOk (KZ p) 198 (.fn 1 [] 1 b_need_charset) :=
  fn_ent ["charset"] (by kernel_rfl) (by kernel_rfl) (by kernel_rfl) (by kernel_rfl) (by kernel_rfl) (by kernel_rfl) rfl (all1 fun a S => by kernel_rfl) (by kernel_rfl)
theorem e_205 : EntOk (KZ p) 205 (.fn 1 [] 1 b_follower_span) :=
  fn_ent ["lead"] (by kernel_rfl) (by kernel_rfl) (by kernel_rfl) (by kernel_rfl) (by kernel_rfl) (by kernel_rfl) rfl (all1 fun a S => by kernel_rfl) (by kernel_rfl)
theorem e_212 : EntOk (KZ p) 212 (.fn 2 [] 8 b_utf8_sign) :=
  fn_ent ["octets", "at"] (by kernel_rfl) (by kernel_rfl) (by kernel_rfl) (by kernel_rfl) (by kernel_rfl) (by kernel_rfl) rfl (all2 fun a b S => by kernel_rfl) (by kernel_rfl)
theorem e_219 : EntOk (KZ p) 219 (.fn 3 [] 3 b_sign_at) :=
  fn_ent ["charset", "octets", "at"] (by kernel_rfl) (by kernel_rfl) (by kernel_rfl) (by kernel_rfl) (by kernel_rfl) (by kernel_rfl) rfl (all3 fun a b c S => by kernel_rfl) (by kernel_rfl)
theorem e_226 : EntOk (KZ p) 226 (.fn 2 [] 6 b_text_in) :=
  fn_ent ["charset", "octets"] (by kernel_rfl) (by kernel_rfl) (by kernel_rfl) (by kernel_rfl) (by kernel_rfl) (by kernel_rfl) rfl (all2 fun a b S => by kernel_rfl) (by kernel_rfl)
theorem e_233 : EntOk (KZ p) 233 (.fn 2 [] 6 b_strict_text) :=
  fn_ent ["charset", "octets"] (by kernel_rfl) (by kernel_rfl) (by kernel_rfl) (by kernel_rfl) (by kernel_rfl) (by kernel_rfl) rfl (all2 fun a b S => by kernel_rfl) (by kernel_rfl)
theorem e_240 : EntOk (KZ p) 240 (.fn 1 [] 1 b_guessed_text) :=
  fn_ent ["octets"] (by kernel_rfl) (by kernel_rfl) (by kernel_rfl) (by kernel_rfl) (by kernel_rfl) (by kernel_rfl) rfl (all1 fun a S => by kernel_rfl) (by kernel_rfl)
theorem e_248 : EntOk (KZ p) 248 (.fn 2 [] 2 b_line_end) :=
  fn_ent ["data", "at"] (by kernel_rfl) (by kernel_rfl) (by kernel_rfl) (by kernel_rfl) (by kernel_rfl) (by kernel_rfl) rfl (all2 fun a b S => by kernel_rfl) (by kernel_rfl)
theorem e_255 : EntOk (KZ p) 255 (.fn 3 [] 4 b_inside_at) :=
  fn_ent ["data", "at", "begun"] (by kernel_rfl) (by kernel_rfl) (by kernel_rfl) (by kernel_rfl) (by kernel_rfl) (by kernel_rfl) rfl (all3 fun a b c S => by kernel_rfl) (by kernel_rfl)
theorem e_262 : EntOk (KZ p) 262 (.fn 4 [] 7 b_closed_at) :=
  fn_ent ["data", "begun", "closing", "barred"] (by kernel_rfl) (by kernel_rfl) (by kernel_rfl) (by kernel_rfl) (by kernel_rfl) (by kernel_rfl) rfl (all4 fun a b c d S => by kernel_rfl) (by kernel_rfl)
theorem e_269 : EntOk (KZ p) 269 (.fn 2 [] 7 b_comment_at) :=
  fn_ent ["data", "begun"] (by kernel_rfl) (by kernel_rfl) (by kernel_rfl) (by kernel_rfl) (by kernel_rfl) (by kernel_rfl) rfl (all2 fun a b S => by kernel_rfl) (by kernel_rfl)
theorem e_324 : EntOk (KZ p) 324 (.fn 0 [] 0 b_plain_kind) :=
  fn_ent [] (by kernel_rfl) (by kernel_rfl) (by kernel_rfl) (by kernel_rfl) (by kernel_rfl) (by kernel_rfl) rfl (all0 fun S => by kernel_rfl) (by kernel_rfl)
theorem e_331 : EntOk (KZ p) 331 (.fn 1 [] 1 b_is_token_code) :=
  fn_ent ["code"] (by kernel_rfl) (by kernel_rfl) (by kernel_rfl) (by kernel_rfl) (by kernel_rfl) (by kernel_rfl) rfl (all1 fun a S => by kernel_rfl) (by kernel_rfl)
theorem e_338 : EntOk (KZ p) 338 (.fn 1 [] 1 b_skip_between) :=
  fn_ent ["cursor"] (by kernel_rfl) (by kernel_rfl) (by kernel_rfl) (by kernel_rfl) (by kernel_rfl) (by kernel_rfl) rfl (all1 fun a S => by kernel_rfl) (by kernel_rfl)
theorem e_345 : EntOk (KZ p) 345 (.fn 1 [] 2 b_take_token) :=
  fn_ent ["cursor"] (by kernel_rfl) (by kernel_rfl) (by kernel_rfl) (by kernel_rfl) (by kernel_rfl) (by kernel_rfl) rfl (all1 fun a S => by kernel_rfl) (by kernel_rfl)
theorem e_352 : EntOk (KZ p) 352 (.fn 1 [] 1 b_is_worth_code) :=
  fn_ent ["code"] (by kernel_rfl) (by kernel_rfl) (by kernel_rfl) (by kernel_rfl) (by kernel_rfl) (by kernel_rfl) rfl (all1 fun a S => by kernel_rfl) (by kernel_rfl)
theorem e_359 : EntOk (KZ p) 359 (.fn 1 [] 3 b_take_worth) :=
  fn_ent ["cursor"] (by kernel_rfl) (by kernel_rfl) (by kernel_rfl) (by kernel_rfl) (by kernel_rfl) (by kernel_rfl) rfl (all1 fun a S => by kernel_rfl) (by kernel_rfl)
theorem e_364 : EntOk (KZ p) 364 (.fn 1 [] 1 b_small_word) :=
  fn_ent ["octets"] (by kernel_rfl) (by kernel_rfl) (by kernel_rfl) (by kernel_rfl) (by kernel_rfl) (by kernel_rfl) rfl (all1 fun a S => by kernel_rfl) (by kernel_rfl)
theorem e_371 : EntOk (KZ p) 371 (.fn 1 [] 3 b_take_pairs) :=
  fn_ent ["cursor"] (by kernel_rfl) (by kernel_rfl) (by kernel_rfl) (by kernel_rfl) (by kernel_rfl) (by kernel_rfl) rfl (all1 fun a S => by kernel_rfl) (by kernel_rfl)
theorem e_385 : EntOk (KZ p) 385 (.fn 1 [] 4 b_part_of) :=
  fn_ent ["name"] (by kernel_rfl) (by kernel_rfl) (by kernel_rfl) (by kernel_rfl) (by kernel_rfl) (by kernel_rfl) rfl (all1 fun a S => by kernel_rfl) (by kernel_rfl)
theorem e_416 : EntOk (KZ p) 416 (.fn 1 [] 9 b_params_of) :=
  fn_ent ["pairs"] (by kernel_rfl) (by kernel_rfl) (by kernel_rfl) (by kernel_rfl) (by kernel_rfl) (by kernel_rfl) rfl (all1 fun a S => by kernel_rfl) (by kernel_rfl)
theorem e_423 : EntOk (KZ p) 423 (.fn 1 [] 3 b_read_value) :=
  fn_ent ["octets"] (by kernel_rfl) (by kernel_rfl) (by kernel_rfl) (by kernel_rfl) (by kernel_rfl) (by kernel_rfl) rfl (all1 fun a S => by kernel_rfl) (by kernel_rfl)
theorem e_430 : EntOk (KZ p) 430 (.fn 1 [] 4 b_strict_kind) :=
  fn_ent ["octets"] (by kernel_rfl) (by kernel_rfl) (by kernel_rfl) (by kernel_rfl) (by kernel_rfl) (by kernel_rfl) rfl (all1 fun a S => by kernel_rfl) (by kernel_rfl)
theorem e_437 : EntOk (KZ p) 437 (.fn 1 [] 1 b_read_kind) :=
  fn_ent ["octets"] (by kernel_rfl) (by kernel_rfl) (by kernel_rfl) (by kernel_rfl) (by kernel_rfl) (by kernel_rfl) rfl (all1 fun a S => by kernel_rfl) (by kernel_rfl)
theorem e_442 : EntOk (KZ p) 442 (.fn 1 [] 4 b_l_pot) :=
  fn_ent ["script"] (by kernel_rfl) (by kernel_rfl) (by kernel_rfl) (by kernel_rfl) (by kernel_rfl) (by kernel_rfl) rfl (all1 fun a S => by kernel_rfl) (by kernel_rfl)
theorem e_449 : EntOk (KZ p) 449 (.fn 2 [] 5 b_l_draw) :=
  fn_ent ["pot", "limit"] (by kernel_rfl) (by kernel_rfl) (by kernel_rfl) (by kernel_rfl) (by kernel_rfl) (by kernel_rfl) rfl (all2 fun a b S => by kernel_rfl) (by kernel_rfl)
theorem e_456 : EntOk (KZ p) 456 (.fn 0 [] 0 b_l_gaps) :=
  fn_ent [] (by kernel_rfl) (by kernel_rfl) (by kernel_rfl) (by kernel_rfl) (by kernel_rfl) (by kernel_rfl) rfl (all0 fun S => by kernel_rfl) (by kernel_rfl)
theorem e_463 : EntOk (KZ p) 463 (.fn 0 [] 0 b_l_heads) :=
  fn_ent [] (by kernel_rfl) (by kernel_rfl) (by kernel_rfl) (by kernel_rfl) (by kernel_rfl) (by kernel_rfl) rfl (all0 fun S => by kernel_rfl) (by kernel_rfl)
theorem e_470 : EntOk (KZ p) 470 (.fn 0 [] 0 b_l_names) :=
  fn_ent [] (by kernel_rfl) (by kernel_rfl) (by kernel_rfl) (by kernel_rfl) (by kernel_rfl) (by kernel_rfl) rfl (all0 fun S => by kernel_rfl) (by kernel_rfl)
theorem e_477 : EntOk (KZ p) 477 (.fn 0 [] 0 b_l_worths) :=
  fn_ent [] (by kernel_rfl) (by kernel_rfl) (by kernel_rfl) (by kernel_rfl) (by kernel_rfl) (by kernel_rfl) rfl (all0 fun S => by kernel_rfl) (by kernel_rfl)
theorem e_484 : EntOk (KZ p) 484 (.fn 1 [] 1 b_l_gap) :=
  fn_ent ["pot"] (by kernel_rfl) (by kernel_rfl) (by kernel_rfl) (by kernel_rfl) (by kernel_rfl) (by kernel_rfl) rfl (all1 fun a S => by kernel_rfl) (by kernel_rfl)
theorem e_491 : EntOk (KZ p) 491 (.fn 1 [] 5 b_l_octets) :=
  fn_ent ["pot"] (by kernel_rfl) (by kernel_rfl) (by kernel_rfl) (by kernel_rfl) (by kernel_rfl) (by kernel_rfl) rfl (all1 fun a S => by kernel_rfl) (by kernel_rfl)
theorem e_498 : EntOk (KZ p) 498 (.fn 2 [] 3 b_l_past) :=
  fn_ent ["octets", "at"] (by kernel_rfl) (by kernel_rfl) (by kernel_rfl) (by kernel_rfl) (by kernel_rfl) (by kernel_rfl) rfl (all2 fun a b S => by kernel_rfl) (by kernel_rfl)
theorem e_505 : EntOk (KZ p) 505 (.fn 3 [] 4 b_l_run) :=
  fn_ent ["octets", "at", "beyond"] (by kernel_rfl) (by kernel_rfl) (by kernel_rfl) (by kernel_rfl) (by kernel_rfl) (by kernel_rfl) rfl (all3 fun a b c S => by kernel_rfl) (by kernel_rfl)
theorem e_512 : EntOk (KZ p) 512 (.fn 2 [] 3 b_l_quoted) :=
  fn_ent ["octets", "at"] (by kernel_rfl) (by kernel_rfl) (by kernel_rfl) (by kernel_rfl) (by kernel_rfl) (by kernel_rfl) rfl (all2 fun a b S => by kernel_rfl) (by kernel_rfl)
theorem e_517 : EntOk (KZ p) 517 (.fn 1 [] 1 b_l_text) :=
  fn_ent ["octets"] (by kernel_rfl) (by kernel_rfl) (by kernel_rfl) (by kernel_rfl) (by kernel_rfl) (by kernel_rfl) rfl (all1 fun a S => by kernel_rfl) (by kernel_rfl)
theorem e_522 : EntOk (KZ p) 522 (.fn 1 [] 1 b_l_small) :=
  fn_ent ["octets"] (by kernel_rfl) (by kernel_rfl) (by kernel_rfl) (by kernel_rfl) (by kernel_rfl) (by kernel_rfl) rfl (all1 fun a S => by kernel_rfl) (by kernel_rfl)
theorem e_529 : EntOk (KZ p) 529 (.fn 2 [] 10 b_l_read) :=
  fn_ent ["octets", "words"] (by kernel_rfl) (by kernel_rfl) (by kernel_rfl) (by kernel_rfl) (by kernel_rfl) (by kernel_rfl) rfl (all2 fun a b S => by kernel_rfl) (by kernel_rfl)
theorem e_534 : EntOk (KZ p) 534 (.fn 2 [] 2 b_l_alike) :=
  fn_ent ["params", "due"] (by kernel_rfl) (by kernel_rfl) (by kernel_rfl) (by kernel_rfl) (by kernel_rfl) (by kernel_rfl) rfl (all2 fun a b S => by kernel_rfl) (by kernel_rfl)
theorem e_541 : EntOk (KZ p) 541 (.fn 1 [] 7 b_law) :=
  fn_ent ["script"] (by kernel_rfl) (by kernel_rfl) (by kernel_rfl) (by kernel_rfl) (by kernel_rfl) (by kernel_rfl) rfl (all1 fun a S => by kernel_rfl) (by kernel_rfl)
theorem e_88 : EntOk (KZ p) 88 (.fn 4 [.int 0, .int (-1)] 4 b_Cursor_init) :=
  fn_entd ["self", "data", "at", "end"] [.int 0, .int (-1)] (dfAt (KZ p) 88) (by kernel_rfl) (by kernel_rfl) (by kernel_rfl) (by kernel_rfl) (by kernel_rfl) (by kernel_rfl) rfl (all24 (fun a b S => by kernel_rfl) (fun a b c S => by kernel_rfl) (fun a b c d S => by kernel_rfl) ) (fun W => vrs_of (by kernel_rfl)) (by kernel_rfl)
theorem e_95 : EntOk (KZ p) 95 (.fn 1 [] 1 b_Cursor_is_done) :=
  fn_ent ["self"] (by kernel_rfl) (by kernel_rfl) (by kernel_rfl) (by kernel_rfl) (by kernel_rfl) (by kernel_rfl) rfl (all1 fun a S => by kernel_rfl) (by kernel_rfl)
theorem e_103 : EntOk (KZ p) 103 (.fn 2 [.int 0] 3 b_Cursor_peek) :=
  fn_entd ["self", "ahead"] [.int 0] (dfAt (KZ p) 103) (by kernel_rfl) (by kernel_rfl) (by kernel_rfl) (by kernel_rfl) (by kernel_rfl) (by kernel_rfl) rfl (all12 (fun a S => by kernel_rfl) (fun a b S => by kernel_rfl) ) (fun W => vrs_of (by kernel_rfl)) (by kernel_rfl)
theorem e_110 : EntOk (KZ p) 110 (.fn 1 [] 2 b_Cursor_take) :=
  fn_ent ["self"] (by kernel_rfl) (by kernel_rfl) (by kernel_rfl) (by kernel_rfl) (by kernel_rfl) (by kernel_rfl) rfl (all1 fun a S => by kernel_rfl) (by kernel_rfl)
theorem e_117 : EntOk (KZ p) 117 (.fn 2 [] 2 b_Cursor_starts) :=
  fn_ent ["self", "word"] (by kernel_rfl) (by kernel_rfl) (by kernel_rfl) (by kernel_rfl) (by kernel_rfl) (by kernel_rfl) rfl (all2 fun a b S => by kernel_rfl) (by kernel_rfl)
theorem e_124 : EntOk (KZ p) 124 (.fn 2 [] 2 b_Cursor_skip) :=
  fn_ent ["self", "word"] (by kernel_rfl) (by kernel_rfl) (by kernel_rfl) (by kernel_rfl) (by kernel_rfl) (by kernel_rfl) rfl (all2 fun a b S => by kernel_rfl) (by kernel_rfl)
theorem e_284 : EntOk (KZ p) 284 (.fn 4 [] 4 b_Kind_init) :=
  fn_ent ["self", "top", "sub", "params"] (by kernel_rfl) (by kernel_rfl) (by kernel_rfl) (by kernel_rfl) (by kernel_rfl) (by kernel_rfl) rfl (all4 fun a b c d S => by kernel_rfl) (by kernel_rfl)
theorem e_289 : EntOk (KZ p) 289 (.fn 1 [] 1 b_Kind_told) :=
  fn_ent ["self"] (by kernel_rfl) (by kernel_rfl) (by kernel_rfl) (by kernel_rfl) (by kernel_rfl) (by kernel_rfl) rfl (all1 fun a S => by kernel_rfl) (by kernel_rfl)
theorem e_296 : EntOk (KZ p) 296 (.fn 1 [] 1 b_Kind_is_multi) :=
  fn_ent ["self"] (by kernel_rfl) (by kernel_rfl) (by kernel_rfl) (by kernel_rfl) (by kernel_rfl) (by kernel_rfl) rfl (all1 fun a S => by kernel_rfl) (by kernel_rfl)
theorem e_303 : EntOk (KZ p) 303 (.fn 1 [] 1 b_Kind_is_letter) :=
  fn_ent ["self"] (by kernel_rfl) (by kernel_rfl) (by kernel_rfl) (by kernel_rfl) (by kernel_rfl) (by kernel_rfl) rfl (all1 fun a S => by kernel_rfl) (by kernel_rfl)
theorem e_310 : EntOk (KZ p) 310 (.fn 1 [] 1 b_Kind_is_text) :=
  fn_ent ["self"] (by kernel_rfl) (by kernel_rfl) (by kernel_rfl) (by kernel_rfl) (by kernel_rfl) (by kernel_rfl) rfl (all1 fun a S => by kernel_rfl) (by kernel_rfl)
theorem e_155 : EntOk (KZ p) 155 (.cls 88) := show ClsAt _ _ _ from { is := by simp, makes := by kernel_rfl, init := by kernel_rfl, typ := by kernel_rfl }
theorem e_313 : EntOk (KZ p) 313 (.cls 284) := show ClsAt _ _ _ from { is := by simp, makes := by kernel_rfl, init := by kernel_rfl, typ := by kernel_rfl }
theorem tab_ok : TabOk (KZ p) tab := tabOk_of (by
  intro e he
  simp only [tabL, List.mem_cons, List.not_mem_nil, or_false] at he
  rcases he with rfl | rfl | rfl | rfl | rfl | rfl | rfl | rfl | rfl | rfl | rfl | rfl | rfl | rfl | rfl | rfl | rfl | rfl | rfl | rfl | rfl | rfl | rfl | rfl | rfl | rfl | rfl | rfl | rfl | rfl | rfl | rfl | rfl | rfl | rfl | rfl | rfl | rfl | rfl | rfl | rfl | rfl | rfl | rfl | rfl | rfl | rfl | rfl | rfl | rfl | rfl | rfl | rfl | rfl | rfl
  · exact e_166 p
  · exact e_171 p
  · exact e_198 p
  · exact e_205 p
  · exact e_212 p
  · exact e_219 p
  · exact e_226 p
  · exact e_233 p
  · exact e_240 p
  · exact e_248 p
  · exact e_255 p
  · exact e_262 p
  · exact e_269 p
  · exact e_324 p
  · exact e_331 p
  · exact e_338 p
  · exact e_345 p
  · exact e_352 p
  · exact e_359 p
  · exact e_364 p
  · exact e_371 p
  · exact e_385 p
  · exact e_416 p
  · exact e_423 p
  · exact e_430 p
  · exact e_437 p
  · exact e_442 p
  · exact e_449 p
  · exact e_456 p
  · exact e_463 p
  · exact e_470 p
  · exact e_477 p
  · exact e_484 p
  · exact e_491 p
  · exact e_498 p
  · exact e_505 p
  · exact e_512 p
  · exact e_517 p
  · exact e_522 p
  · exact e_529 p
  · exact e_534 p
  · exact e_541 p
  · exact e_88 p
  · exact e_95 p
  · exact e_103 p
  · exact e_110 p
  · exact e_117 p
  · exact e_124 p
  · exact e_284 p
  · exact e_289 p
  · exact e_296 p
  · exact e_303 p
  · exact e_310 p
  · exact e_155 p
  · exact e_313 p)
end Mine
end

noncomputable section
open PySem PySem.W PyProof.Rows PySem.Calls PySem.Spec
set_option maxRecDepth 100000
set_option maxHeartbeats 4000000
namespace Mine
set_option backward.eqns.nonrecursive false in
noncomputable def isRef (v : Option (Option Value)) (f : Nat) : Bool := match v with
  | some (some (.ref a)) => a == f
  | _ => false
theorem isRef_ok {v : Option (Option Value)} {f : Nat} (h : isRef v f = true) : v = some (some (.ref f)) := by
  rcases v with _ | _ | v
  · exact nof h
  · exact nof h
  · cases v with
    | ref a => rw [eq_of_beq (show (a == f) = true from h)]
    | _ => exact nof h
set_option backward.eqns.nonrecursive false in
noncomputable def isNo (v : Option (Option Value)) : Bool := match v with
  | some none => true
  | _ => false
theorem isNo_ok {v : Option (Option Value)} (h : isNo v = true) : v = some none := by
  rcases v with _ | _ | v
  · exact nof h
  · rfl
  · exact nof h
set_option backward.eqns.nonrecursive false in
noncomputable def isBl (v : Option (Option Value)) (s : String) : Bool := match v with
  | some (some (.builtin t)) => t == s
  | _ => false
theorem isBl_ok {v : Option (Option Value)} {s : String} (h : isBl v s = true) : v = some (some (.builtin s)) := by
  rcases v with _ | _ | v
  · exact nof h
  · exact nof h
  · cases v with
    | builtin a => rw [eq_of_beq (show (a == s) = true from h)]
    | _ => exact nof h
set_option backward.eqns.nonrecursive false in
noncomputable def isTy (v : Option Value) (s : String) : Bool := match v with
  | some (.type t) => t == s
  | _ => false
theorem isTy_ok {v : Option Value} {s : String} (h : isTy v s = true) : v = some (.type s) := by
  rcases v with _ | v
  · exact nof h
  · cases v with
    | type a => rw [eq_of_beq (show (a == s) = true from h)]
    | _ => exact nof h
noncomputable def tauK (K : Frag) : List (Addr × List Value) := [(270, itemsAt K 270), (177, itemsAt K 177), (241, itemsAt K 241)]
set_option backward.eqns.nonrecursive false in
noncomputable def isTupB (K : Frag) (a : Addr) : Bool := match K.lookup a with
  | some o => o.cls == .type "tuple" && (match o.data with
      | .seq _ _ => true
      | _ => false)
  | none => false
theorem tup_at {K : Frag} {h : Heap} (X : K.In h) {a : Addr} (e : isTupB K a = true) : IsTup h a (itemsAt K a).toArray := by
  unfold isTupB at e
  unfold itemsAt
  cases ho : K.lookup a with
  | none => rw [ho] at e; exact nof e
  | some o =>
    rw [ho] at e
    obtain ⟨c, d, dt, sl⟩ := o
    obtain ⟨e1, e2⟩ := Bool.and_eq_true_iff.mp (show (c == .type "tuple" && _) = true from e)
    cases dt with
    | seq vs n => exact ⟨_, X _ _ ho, eq_of_beq e1, n, by simp⟩
    | _ => exact nof e2
set_option backward.eqns.nonrecursive false in
noncomputable def conV (K : Frag) (v : Value) (av : AV) : Bool := match av with
  | .tup l => (match v with
      | .ref a => (a == 270 || a == 177 || a == 241) && vrsB l (itemsAt K a) && decide (l.length ≤ 1000)
      | _ => false)
  | _ => vrB av v
set_option backward.eqns.nonrecursive false in
noncomputable def conB (K : Frag) (q : Str × AV) : Bool := match nsIn K mainGlobals q.1 with
  | some v => (match v with
      | some v => conV K v q.2
      | none => false)
  | none => false
theorem conV_ok {K : Frag} {v : Value} {av : AV} (h : conV K v av = true) : ConR K (tauK K) av v := by
  cases av with
  | tup l =>
    cases v with
    | ref a =>
      replace h : ((a == 270 || a == 177 || a == 241) && vrsB l (itemsAt K a) && decide (l.length ≤ 1000)) = true := h
      simp only [Bool.and_eq_true, decide_eq_true_eq, Bool.or_eq_true, beq_iff_eq] at h
      refine .tup a l (itemsAt K a) ?_ (fun W => vrs_of h.1.2) h.2
      rcases h.1.1 with (rfl | rfl) | rfl <;> simp [tauK]
    | _ => exact nof h
  | _ => exact conr_of h
theorem con_ok {K : Frag} {q : Str × AV} (h : conB K q = true) : ∃ v, nsIn K mainGlobals q.1 = some (some v) ∧ ConR K (tauK K) q.2 v := by
  unfold conB at h
  rcases e : nsIn K mainGlobals q.1 with _ | _ | v
  · rw [e] at h; exact nof h
  · rw [e] at h; exact nof h
  · rw [e] at h; exact ⟨v, rfl, conV_ok h⟩
noncomputable def clsB (K : Frag) (c : Nat) : Bool := isBl (findIn K (.ref c) "__getattribute__") "object.__getattribute__" && isNo (findIn K (.ref c) "__getattr__") && hasDictIn K c && isBl (findIn K (.ref c) "__setattr__") "object.__setattr__" && plainOver K c &&
  (List.range 6).all (fun n => isNo (findIn K (.ref c) (anm n)))
noncomputable def methB (K : Frag) (q : Nat × Nat × Nat) : Bool := isRef (findIn K (.ref q.1) (anm q.2.1)) q.2.2 && isTy (typeIn K (.ref q.2.2)) "function"
noncomputable def methL : List (Nat × Nat × Nat) := methT
theorem meths_mem {c n f : Nat} (h : meths c n = some f) : (c, n, f) ∈ methL := meths_in h
variable (p : Params)
theorem k_fns : (gfn.all fun q => isRef (nsIn (KZ p) mainGlobals q.1) q.2) = true := by kernel_rfl
theorem k_con : (gcon.all fun q => conB (KZ p) q) = true := by kernel_rfl
theorem k_cls : (clsB (KZ p) 155 && clsB (KZ p) 313) = true := by kernel_rfl
theorem k_meth : (methL.all fun q => methB (KZ p) q) = true := by kernel_rfl
theorem k_keep : ((gfn.map Prod.snd ++ [95, 103, 110, 117, 124, 289, 296, 303, 310]).all fun f => keepIn (KZ p) (.ref f)) = true := by kernel_rfl
theorem k_blt : (([.len, .chr, .bytes, .int, .abs, .sorted, .tuple] : List Bl).all fun b => isNo (nsIn (KZ p) mainGlobals b.name)) = true := by kernel_rfl
theorem k_ok : KOk (KZ p) (tauK (KZ p)) where
  fns x f h := isRef_ok (List.all_eq_true.mp (k_fns p) (x, f) (lookup_memS h))
  con k q h := con_ok (List.all_eq_true.mp (k_con p) q (List.mem_of_getElem? h))
  blt b := isNo_ok (List.all_eq_true.mp (k_blt p) b (by cases b <;> simp))
  range := isNo_ok (by kernel_rfl)
  cls c h := by
    have k := k_cls p
    rw [Bool.and_eq_true] at k
    have : clsB (KZ p) c = true := by rcases h with rfl | rfl; exact k.1; exact k.2
    simp only [clsB, Bool.and_eq_true] at this
    exact ⟨isBl_ok this.1.1.1.1.1, isNo_ok this.1.1.1.1.2, this.1.1.1.2, isBl_ok this.1.1.2, this.1.2⟩
  natt c n h hn := by
    have k := k_cls p
    rw [Bool.and_eq_true] at k
    have : clsB (KZ p) c = true := by rcases h with rfl | rfl; exact k.1; exact k.2
    simp only [clsB, Bool.and_eq_true] at this
    exact isNo_ok (List.all_eq_true.mp this.2 n (List.mem_range.mpr hn))
  meth c n f h := by
    have := List.all_eq_true.mp (k_meth p) _ (meths_mem h)
    simp only [methB, Bool.and_eq_true] at this
    exact ⟨isRef_ok this.1, isTy_ok this.2⟩
  keep f h := by
    refine List.all_eq_true.mp (k_keep p) f ?_
    unfold fnIs at h
    rw [Bool.or_eq_true] at h
    rcases h with h | h
    · obtain ⟨q, hq, e⟩ := List.any_eq_true.mp h
      exact List.mem_append_left _ (List.mem_map.mpr ⟨q, hq, eq_of_beq e⟩)
    · exact List.mem_append_right _ (List.contains_iff_mem.mp h)
end Mine
end

noncomputable section
open PySem PySem.W PyProof.Rows PySem.Calls PySem.Spec
set_option maxRecDepth 100000
set_option maxHeartbeats 4000000
namespace Mine
noncomputable def obAt (K : Frag) (c : Addr) : Obj := (K.lookup c).getD default
set_option backward.eqns.nonrecursive false in
noncomputable def cdAt (K : Frag) (c : Addr) : ClassData := match (obAt K c).data with
  | .cls cd => cd
  | _ => ⟨"", [], [], 0, "", true, [], [], false, none, false⟩
noncomputable def slAt (K : Frag) (c i : Nat) : Option Value := ((obAt K c).slots[i]?).getD none
noncomputable def posI (i : Nat) : Pos := ([⟨8, 8, 8, 17⟩, ⟨8, 8, 8, 26⟩, ⟨8, 27, 8, 31⟩, ⟨8, 33, 8, 37⟩, ⟨8, 8, 8, 38⟩, ⟨8, 8, 8, 38⟩, ⟨9, 8, 9, 12⟩, ⟨9, 8, 9, 17⟩, ⟨9, 20, 9, 24⟩, ⟨9, 8, 9, 24⟩, ⟨10, 8, 10, 12⟩, ⟨10, 8, 10, 15⟩, ⟨10, 18, 10, 20⟩, ⟨10, 8, 10, 20⟩] : List Pos).getD i ⟨0, 0, 0, 0⟩
variable (p : Params)
theorem init_at : InitAt (KZ p) 36 (fdAt (KZ p) 36) (((dfAt (KZ p) 36)[0]?).getD .none) posI where
  look := fd_look (by kernel_rfl)
  body := by kernel_rfl
  line := by kernel_rfl
  code := by kernel_rfl
  clo := by kernel_rfl
  glob := by kernel_rfl
  blt := by kernel_rfl
  kind := by kernel_rfl
  gen := by kernel_rfl
  co := by kernel_rfl
  b1 e v S := by kernel_rfl
  b2 e v a S := by kernel_rfl
  n0 := by kernel_rfl
  n1 := by kernel_rfl
  n2 := by kernel_rfl
  n3 := by kernel_rfl
  boot := isNo_ok (by kernel_rfl)
  cls := by kernel_rfl
  typ := isTy_ok (by kernel_rfl)
theorem exc_59 : ExcAt (KZ p) 59 36 where
  cls := ⟨(cdAt (KZ p) 59).name, (cdAt (KZ p) 59).qualname, (cdAt (KZ p) 59).ns, (cdAt (KZ p) 59).bases, (cdAt (KZ p) 59).slotNames, (cdAt (KZ p) 59).subclasses, (cdAt (KZ p) 59).abstract, (cdAt (KZ p) 59).collection, (obAt (KZ p) 59).dict,
    slAt (KZ p) 59 0, slAt (KZ p) 59 1, slAt (KZ p) 59 2, slAt (KZ p) 59 3, slAt (KZ p) 59 5, by kernel_rfl⟩
  init := isRef_ok (by kernel_rfl)
  what := isNo_ok (by kernel_rfl)
  at_ := isNo_ok (by kernel_rfl)
  set := isBl_ok (by kernel_rfl)
theorem exc_71 : ExcAt (KZ p) 71 36 where
  cls := ⟨(cdAt (KZ p) 71).name, (cdAt (KZ p) 71).qualname, (cdAt (KZ p) 71).ns, (cdAt (KZ p) 71).bases, (cdAt (KZ p) 71).slotNames, (cdAt (KZ p) 71).subclasses, (cdAt (KZ p) 71).abstract, (cdAt (KZ p) 71).collection, (obAt (KZ p) 71).dict,
    slAt (KZ p) 71 0, slAt (KZ p) 71 1, slAt (KZ p) 71 2, slAt (KZ p) 71 3, slAt (KZ p) 71 5, by kernel_rfl⟩
  init := isRef_ok (by kernel_rfl)
  what := isNo_ok (by kernel_rfl)
  at_ := isNo_ok (by kernel_rfl)
  set := isBl_ok (by kernel_rfl)
theorem exc_ok : ExcK (KZ p) where
  m c h := by rcases h with rfl | rfl <;> kernel_rfl
  c := ⟨_, _, _, _, init_at p, exc_59 p, exc_71 p⟩
end Mine
end

noncomputable section
namespace Mine
end Mine
end

noncomputable section
open PySem PySem.W PyProof.Rows PySem.Calls PySem.Spec PySem.SeqAt PySem.Builtin
set_option maxRecDepth 100000
set_option maxHeartbeats 4000000
namespace Mine
section
variable {prog : Program} {K : Frag} {τ : List (Addr × List Value)} {B : Bx} {Φ : Fn} {n : Nat}
variable {C : Cx} {lk : LK} {gl : Str → Bool} {A : Around} {E' : Value → Shared → Prop} {W : Wd} {st : St} {s : Shared}

theorem cut_base (Z : CxOk B C lk gl) (hA : AOk C A n) (hτ : ∀ t ∈ τ, t ∈ W.τ) (T : Stt B C W st s) {L : Addr} {vs : List Value} {its : List AV} (hL : B.base.IsList L vs.toArray) (rv : VRs W its vs) (hz : its.length ≤ 1000) {m : Str → Option Value}
    (hn : s.heap.Ns C.env.locals m) (hm : m "script" = some (.ref L)) (hk : C.env.kindOf "script" = some .local) {p1 p2 ps p : Pos} {k2 : Nat} {Q'' : Value → Shared → Prop}
    (h : ∀ W₁ s₁ v, W.le W₁ → Stt B C W₁ ⟨st.loc, st.hp ++ [.list (cutL its none (some 40))]⟩ s₁ → VR W₁ (.obj st.hp.length) v → Q'' v s₁) :
    wpAny (model prog B.w) A (eval (.Subscript (.Name "script" p1) (.Slice none (some (.Constant (.int 40) k2 p2)) none ps) p) C.env) Q'' E' s := by
  refine Subscript_ (wpAny_Name (wpAny_loadName_local Z.kind hk hn hm ?_) (by decide))
  refine wpAny_Slice (evalPart_none_step (evalPart_some_step ?_))
  refine (se_con (prog := prog) (τ := τ) (B := B) (Φ := fun _ _ _ _ _ _ => False) (n := n) (c := .int 40) (k := k2) (p := p2)) C lk gl A W st s (fun av st₁ => av = .int 40 ∧ st₁ = st) (fun _ _ => False) _ E' Z rfl hA hτ T (show AV.int 40 = AV.int 40 ∧ st = st from ⟨rfl, rfl⟩) (fun W₂ st₂ s₂ bv x l₂ T₂ r₂ h₂ => ?_) (fun _ _ _ _ _ _ _ _ h => h.elim)
  obtain ⟨rfl, rfl⟩ := h₂
  cases r₂ with
  | int i t =>
  refine evalPart_none_step ?_
  have T₃ : Stt B C W₂ st₂ { s₂ with heap := s₂.heap.push { cls := .type "slice", data := .fields #[.none, .int 40 t, .none] } } := T₂.push _
  have x : (s₂.heap.push { cls := .type "slice", data := .fields #[.none, .int 40 t, .none] }).IsList L vs.toArray := by
    obtain ⟨o, ho, r⟩ := hL
    exact ⟨o, T₃.stays _ _ ho, r⟩
  have rv₂ := (rv.mono l₂).cut none (some 40)
  have hcut : (cutL its none (some (40 : Int))).length ≤ 16777216 := by have := cut_le its none (some (40 : Int)); omega
  obtain ⟨W₄, l₄, T₄, r₄⟩ := new_lst T₃ rv₂ hcut
  refine tail_any x.typeIs slot_list_getitem.lookup ?_ rfl
  refine wpAny_getItem_list_slice x (Heap.IsSliceOf.new ..) .none (.int 40 t) .none (by simp) ?_ (by rw [sizeLine_eq]; have := rv.length; simp; omega)
  rw [kms_pick_eq]
  exact h W₄ _ _ (l₂.trans l₄) T₄ r₄
set_option tactic.hygienic true in
theorem asgC_G (G : Gx K τ B) {x : Str} {i : Nat} {px : Pos} {elt : E} {y : Str} {py : Pos} {it : E} {sc : Scope} {p' p : Pos} (he : SEv prog τ B Φ n elt) {N : St → Prop} {R : AV → St → Prop} {Cn : St → Prop} {X : QX} {Q' : Flow → Shared → Prop}
    (Z : CxOk B C lk gl) (ro : C.ro = false) (ok : okS lk gl (.asgC x i px (.com elt y py it sc p') p) = true) (hA : AOk C A n) (hτ : ∀ t ∈ τ, t ∈ W.τ) (T : Stt B C W st s)
    (h : ∀ Q'' : Value → Shared → Prop, (∀ W₁ st₁ s₁ av v, W.le W₁ → Stt B C W₁ st₁ s₁ → VR W₁ av v → (iterQ C.hnd.isSome av st₁.hp fun items chk =>
      comQ (condF Φ C.hnd.isSome st₁.loc none) (eltF Φ C.hnd.isSome st₁.loc elt) chk (fun acc st₂ => N ((⟨st₁.loc, st₂.hp ++ [.list acc]⟩ : St).set i (.obj st₂.hp.length))) items [] st₁) → Q'' v s₁) → wpAny (model prog B.w) A (eval (emb it) C.env) Q'' E' s)
    (kf : KF B C W N R Cn Q') (kx : KX B C W X E') : wpAny (model prog B.w) A (exec (embS (.asgC x i px (.com elt y py it sc p') p)) C.env) Q' E' s := by
  simp only [or2, oq29, Bool.and_eq_true, Bool.not_eq_true'] at ok
  obtain ⟨⟨⟨o1, o2⟩, o3⟩, o4⟩ := ok
  have hn : C.nm i = some x := Z.lk i x false (beq_iff_eq.mp o1)
  have hsw : swapsWith (.ListComp (emb elt) [⟨.Name y py, emb it, [], 0⟩] sc p') (some (.Name x px)) p.line C.env = pure true := by
    show pure (C.env.blockKind == .function && C.env.kindOf x == some .local && px.line == p'.line && !(sc.names.any fun (n, k) => n == x && (k == .local || k == .cell))) = (pure true : Sem Bool)
    rw [o3, o4, (Z.nm i x hn).1]
    have : C.env.blockKind = .function := by unfold Env.blockKind; rw [Z.kind]; rfl
    rw [this]; rfl
  have key := com_coreG (prog := prog) (x := y) (px := py) (sc := sc) (p := p') G (ct := none) (use := some (assign (.Name x px) C.env)) (Q := fun v st₁ => N (st₁.set i v)) (Q' := fun _ s' => Q' .next s') (X := X) he (fun _ e => nomatch e) Z o2.1.1.2 (fun _ e => nomatch e) o2.1.2 o2.2 hA hτ T h (E' := E') (fun W' st' s' D Lc mc av le T' rv hq hmc hl sb hr => ?_) kx
  · show wpAny _ _ (exec (.Assign [.Name x px] (.ListComp (emb elt) [⟨.Name y py, emb it, [], 0⟩] sc p') p) C.env) _ _ _
    rw [exec_Assign_Name_used _ _ _ _ hsw, arm_evalThenUse_ListComp]
    exact wpAny_bind (wpAny_standAt (wpAny_bind (wpAny_bind (wpAny_mono key (fun _ _ z => wpAny_pure (wpAny_pure z)) fun _ _ z => z))))
  refine wpAny_assign_Name (store_ok Z ro T' o1 rv fun h' tk hs T₂ => ?_)
  refine ⟨mc, hmc.sameBut hs hl, fun h'' hs'' => ?_⟩
  exact kf.n W' _ _ le (sb W' _ _ h'' T₂ (hmc.sameBut hs hl) hr hs'') hq
theorem pot_body (G : Gx K τ B) (Y : ExcK K) {k : Nat} (F : FnOk prog τ B (iterF tab k) n) {Q' : Flow → Shared → Prop} {X : QX} {R : AV → St → Prop} {N : St → Prop} {ns : List Int}
    (Z : CxOk B C lk gl) (FC : FCx C) (ro : C.ro = false) (hh : C.hnd = none) (ok : okSs lk gl b_l_pot = true) (hA : AOk C A n) (hτ : ∀ t ∈ τ, t ∈ W.τ) (T : Stt B C W ⟨[none, none, none, none], st.hp⟩ s) {L : Addr} {vs : List Value} (hL : B.base.IsList L vs.toArray) (rv : VRs W (ns.map .int) vs) (hz : ns.length ≤ 1000) {m : Str → Option Value}
    (hn : s.heap.Ns C.env.locals m) (hm : m "script" = some (.ref L)) (hk : C.env.kindOf "script" = some .local)
    (hR : ∀ v st', (∃ p c, v = .obj p ∧ Pot st'.hp p c 0) → R v st') (kf : KF B C W N R (fun _ => False) Q') (kx : KX B C W X E') :
    wpAny (model prog B.w) A (execs (embSs b_l_pot) C.env) Q' E' s := by
  obtain ⟨ok1, ok2⟩ : okS lk gl (match b_l_pot with | .cons t _ => t | _ => .cont ⟨0, 0, 0, 0⟩) = true ∧ okSs lk gl (dropSs 1 b_l_pot) = true := by
    have : okSs lk gl b_l_pot = (okS lk gl (match b_l_pot with | .cons t _ => t | _ => .cont ⟨0, 0, 0, 0⟩) && okSs lk gl (dropSs 1 b_l_pot)) := rfl
    rw [this, Bool.and_eq_true] at ok
    exact ok
  show wpAny _ _ (execs (embS (match b_l_pot with | .cons t _ => t | _ => .cont ⟨0, 0, 0, 0⟩) :: embSs (dropSs 1 b_l_pot)) C.env) _ _ _
  refine wpAny_execs_cons (asgC_G (Φ := iterF tab k) (N := fun st' => wpSs (iterF tab k) C.hnd.isSome (dropSs 1 b_l_pot) st' N R (fun _ => False) X) (R := R) (Cn := fun _ => False) G (se_all G F _).1 Z ro ok1 hA hτ T (fun Q'' hq => ?_) ⟨fun W₁ st₁ s₁ l₁ T₁ h₁ => ?_, fun _ _ _ _ _ l₁ T₁ r₁ h₁ => kf.r _ _ _ _ _ l₁ T₁ r₁ h₁, fun _ _ _ l₁ T₁ h₁ => kf.c _ _ _ l₁ T₁ h₁⟩ kx)
  · refine cut_base Z hA hτ T hL rv (by rw [List.length_map]; exact hz) hn hm hk fun W₁ s₁ v l₁ T₁ r₁ => ?_
    refine hq W₁ _ s₁ (.obj st.hp.length) v l₁ T₁ r₁ ?_
    rw [hh]
    rw [cutL_map]
    simp only [iterQ, onO, getC]
    generalize cutL ns none (some 40) = cs
    change comQ (fun _ st₂ K => K true st₂) (eltF _ _ _ _) _ _ _ _ _
    rw [comQ_map (H := st.hp ++ [AO.list (cs.map .int)]) (fun v => v) (fun v => [some v, none, none, none, none]) getC (fun _ _ _ e => by simp only [e]) _ _ _ rfl (by
      intro v hv st' e K'
      obtain ⟨i, _, rfl⟩ := List.mem_map.mp hv
      unfold eltF
      rw [e]
      simp only [↓wq0, ↓wq1, ↓wq2, ↓wq3, ↓wq4, ↓wq5, ↓wq6, ↓wq7, ↓wq8, ↓wq9, ↓wq10, ↓wq11, ↓wq12, ↓wq13, ↓wq14, ↓wq15, ↓wq16, ↓wq17, ↓wq18, ↓wq19, ↓wq20, ↓wq21, ↓wq22, ↓wq23, ↓wq24, ↓wq25, ↓wq26, ↓wq27, ↓wq28, ↓wq29, ↓wq30, ↓wqs0, ↓wqs1, bltQ, blt1, isI, finQ, List.getElem?_cons_zero])]
    simp only [List.nil_append, List.map_id', St.set, List.set_cons_zero, List.set_cons_succ]
    exact pot_rest hR getC
  · exact sss_all G Y F (dropSs 1 b_l_pot) C lk gl A W₁ st₁ s₁ _ _ _ _ _ _ Z FC ro ok2 hA (tle hτ l₁) T₁ h₁ (kf.mono l₁) (kx.mono l₁)
end
end Mine
end

noncomputable section
open PySem PySem.W PyProof.Rows PySem.Calls PySem.Spec PySem.SeqAt PySem.Builtin
set_option maxRecDepth 100000
set_option maxHeartbeats 4000000
namespace Mine
section
variable {prog : Program} {K : Frag} {τ : List (Addr × List Value)} {B : Bx} {n : Nat}
variable {C : Cx} {lk : LK} {gl : Str → Bool} {A : Around} {E' : Value → Shared → Prop} {W : Wd} {st : St} {s : Shared}
theorem AOk.less {n m : Nat} (h : AOk C A n) (l : m ≤ n) : AOk C A m := ⟨h.frames, by have := h.depth; omega, by have := h.units; omega, h.handled⟩
set_option tactic.hygienic true in
theorem law_all (G : Gx K τ B) (Y : ExcK K) (TO : TabOk K tab) {fd : FuncData} {dvs : List Value} (FA : FnAt K 442 1 [] 4 b_l_pot fd ["script"] dvs) (hsc : fd.scope.names.lookup ("script" : Str) = some NameKind.local) {Q' : Flow → Shared → Prop} {ns : List Int}
    (Z : CxOk B C lk gl) (FC : FCx C) (ro : C.ro = false) (hh : C.hnd = none) (ok : okSs lk gl b_law = true) (hA : AOk C A 13) (hτ : ∀ t ∈ τ, t ∈ W.τ) (T : Stt B C W ⟨[none, none, none, none, none, none, none], []⟩ s) {L : Addr} {vs : List Value} (hL : B.base.IsList L vs.toArray) (rv : VRs W (ns.map .int) vs) (hz : ns.length ≤ 1000) {m : Str → Option Value}
    (hn : s.heap.Ns C.env.locals m) (hm : m "script" = some (.ref L)) (hk : C.env.kindOf "script" = some .local)
    (kf : KF B C W (fun _ => False) trueQ (fun _ => False) Q') (kx : KX B C W (fun _ _ => False) E') :
    wpAny (model prog B.w) A (execs (embSs b_law) C.env) Q' E' s := by
  have F := fnOk_of (iterF_ok (prog := prog) G Y TO 12)
  obtain ⟨ok1, ok2⟩ : okS lk gl (match b_law with | .cons t _ => t | _ => .cont ⟨0, 0, 0, 0⟩) = true ∧ okSs lk gl (dropSs 1 b_law) = true := by
    have : okSs lk gl b_law = (okS lk gl (match b_law with | .cons t _ => t | _ => .cont ⟨0, 0, 0, 0⟩) && okSs lk gl (dropSs 1 b_law)) := rfl
    rw [this, Bool.and_eq_true] at ok
    exact ok
  show wpAny _ _ (execs (embS (match b_law with | .cons t _ => t | _ => .cont ⟨0, 0, 0, 0⟩) :: embSs (dropSs 1 b_law)) C.env) _ _ _
  have kf1 : KF B C W (fun st' => wpSs (iterF tab 12) C.hnd.isSome (dropSs 1 b_law) st' (fun _ => False) trueQ (fun _ => False) (fun _ _ => False)) trueQ (fun _ => False)
      (fun f s' => match f with
        | .next => wpAny (model prog B.w) A (execs (embSs (dropSs 1 b_law)) C.env) Q' E' s'
        | f => Q' f s') :=
    ⟨fun W₁ st₁ s₁ l₁ T₁ h₁ => sss_all G Y F (dropSs 1 b_law) C lk gl A W₁ st₁ s₁ _ _ _ _ _ _ Z FC ro ok2 (hA.less (by omega)) (tle hτ l₁) T₁ h₁ (kf.mono l₁) (kx.mono l₁), fun _ _ _ _ _ l₁ T₁ r₁ h₁ => kf.r _ _ _ _ _ l₁ T₁ r₁ h₁, fun _ _ _ l₁ T₁ h₁ => kf.c _ _ _ l₁ T₁ h₁⟩
  refine wpAny_execs_cons ?_
  unfold b_law at ok1 ⊢
  try dsimp only at ok1
  try dsimp only
  simp only [or1, Bool.and_eq_true, Bool.not_eq_true', oq22, beq_iff_eq] at ok1
  obtain ⟨⟨o1, ⟨o2, o3⟩, o4⟩, o5⟩ := ok1
  refine wpAny_Assign_Name (Call_Name rfl (load_glob Z G T o2 (G.k.fns _ 442 rfl) ?_)) (swaps_ok (e := .call _ 442 _ _ _) rfl _ _ _)
  refine callWith_of (P := fun h => K.In h) (by rw [stars_plain _ _ o4]; rfl) (keeps_K (G.k.keep 442 (by decide))) (args_ok o4 ?_)
  refine wpAny_items_cons (wpAny_Name (wpAny_loadName_local Z.kind hk hn hm (wpAny_items_nil ⟨G.X.keeps T.stays, ?_⟩)) (by decide)) (star_ok rfl _ _)
  obtain rfl : dvs = [] := VRs.inv_nil (FA.dflt W)
  have okp := FA.ok
  simp only [okF, Bool.and_eq_true] at okp
  refine wpAny_call (call_gen (prog := prog) (n := 12) (X := fun _ _ => False) (Q := fun v hp => ∃ p c, v = .obj p ∧ Pot hp p c 0) (oal := [none]) G FA Z hA hτ T (fun i av e => ?_) (FA.binds _ (Nat.le_refl _) (Nat.le_refl _)) rfl rfl (fun C' A' s' Q'' E'' Z' F' hA' ro' hh' T' hns hko kf' kx' => ?_) (fun W₁ hp₁ s₁ av v l₁ T₁ r₁ h₁ => ?_) (fun _ _ _ _ _ _ _ _ h => h.elim))
  · cases i with
    | zero => cases e
    | succ i => cases e
  · have hkind : C'.env.kindOf "script" = some NameKind.local := by rw [hko]; exact hsc
    obtain ⟨m', hn', hm'⟩ := hns 0 "script" (.ref L) rfl rfl hkind
    exact pot_body (st := ⟨[], []⟩) G Y F Z' F' ro' (hh'.trans hh) okp.1.1.1.1.1.1 hA' hτ T' hL rv hz hn' hm' hkind (fun v st' h => h) kf' kx'
  · obtain ⟨p, c, rfl, hP⟩ := h₁
    refine store_ok Z ro T₁ o1 r₁ fun h' tk hs T₂ => kf1.n _ _ _ l₁ T₂ ?_
    rw [hh]
    exact law_start (k := 3) hP
end
end Mine
end

noncomputable section
open PySem PySem.W PyProof.Rows PySem.Calls PySem.Spec PySem.SeqAt PySem.Builtin
set_option maxRecDepth 100000
set_option maxHeartbeats 4000000
namespace Mine
theorem ints_vrs {W : Wd} {vs : List Value} {ns : List Int} (h : IntsAre vs ns) : VRs W (ns.map .int) vs := by
  induction h with
  | nil => exact .nil
  | cons => exact .cons (.int _ _) (by assumption)
theorem fa_442 (p : Params) : FnAt (KZ p) 442 1 [] 4 b_l_pot (fdAt (KZ p) 442) ["script"] [] where
  look := fd_look (by kernel_rfl)
  body := by kernel_rfl
  code := by kernel_rfl
  clo := by kernel_rfl
  glob := by kernel_rfl
  blt := by kernel_rfl
  len := rfl
  binds vs a c := all1 (P := fun vs => ∀ S, peek (KZ p) S (bindArgs (fdAt (KZ p) 442) ⟨vs, []⟩) = some ((["script"] : List Str).zip (vs ++ ([] : List Value).drop (vs.length + ([] : List AV).length - 1)))) (fun x S => by kernel_rfl) vs (Nat.le_antisymm a c)
  dflt _ := .nil
  ok := by kernel_rfl
theorem sc_442 (p : Params) : (fdAt (KZ p) 442).scope.names.lookup ("script" : Str) = some NameKind.local := by kernel_rfl
noncomputable def lawC (env : Env) : Cx :=
  { env := env, nm := fun i => nmL env.scope.names[i]?, cl := fun _ => none, ons := [], outs := [], envs := [env], hnd := none, ro := false }
theorem law_cx {B : Bx} {env : Env} {ps : List Str} {k : Nat} {b : Ss} (ok : okF env.scope ps k b = true) (hnc : env.scope.names.all (fun y => y.2 != .cell) = true) (hg : env.globals = mainGlobals) (hb : env.builtins = builtinsNs) (hf : env.frame = some env.locals) :
    CxOk B (lawC env) (lkF env.scope) (glS env.scope) := by
  simp only [okF, Bool.and_eq_true, decide_eq_true_eq, beq_iff_eq, List.all_eq_true, Bool.not_eq_true'] at ok
  obtain ⟨⟨⟨⟨⟨⟨o1, ⟨o2, o3⟩, o4⟩, o5⟩, o6⟩, o7⟩, o8⟩, o9⟩ := ok
  have nmAt : ∀ i y, (lawC env).nm i = some y → env.scope.names[i]? = some (y, .local) := fun i y e => nmL_inv e
  refine { kind := o2, globals := hg, builtins := hb, lk := ?_, nm := ?_, inj := ?_, nc := (fun _ _ _ e => by cases e), cl := (fun _ _ _ e => by cases e), gl := ?_, outs := (fun q hq => by cases hq), frs := ?_ }
  · intro i x bb e
    have hy := lkF_inv e
    cases bb with
    | false => exact congrArg nmL hy
    | true => exact nomatch List.all_eq_true.mp hnc _ (List.mem_of_getElem? hy)
  · intro i x e
    have h := nmAt i x e
    exact ⟨lookup_of_get o5 h, (o9 _ (List.mem_of_getElem? h)).1⟩
  · intro i j y e e'
    exact get_inj o5 (nmAt i y e) (nmAt j y e')
  · intro y e
    simp only [glS, Bool.and_eq_true, beq_iff_eq, Bool.not_eq_true'] at e
    exact e
  · intro env' he
    rw [List.mem_singleton.mp he]
    exact ⟨by show env.scope.kind ≠ _; rw [o2]; decide, env.locals, hf, .inl rfl⟩
theorem law_join {prog : Program} {w : World} {s₁ s : Shared} {name : Str} {sc : Scope} {fa : Addr} {cd : Value} {l : Addr} {vs : List Value} {ns : List Int} {m : Str → Option Value} {Q' : Flow → Shared → Prop} {E' : Value → Shared → Prop}
    (KX : (KZ w.params).In s₁.heap) (TR : ∃ p loose mg mb, TopRead p loose mg mb s₁.heap) (hL : s₁.heap.IsList l vs.toArray) (hI : IntsAre vs ns) (hn : ns.length ≤ 1000)
    (F : PyProof.Rows.Fr s₁.heap s₁.heap.objs.size s.heap m) (hm : m "script" = some (.ref l)) (hsc : okF sc ["script"] 7 b_law = true) (hnc : sc.names.all (fun y => y.2 != .cell) = true) (hloc : sc.names.lookup ("script" : Str) = some .local)
    (fin : ∀ s', s'.gens = s.gens → s'.os = s.os → (∀ b o, s₁.heap.get? b = some o → s'.heap.get? b = some o) → Q' (.ret (.bool true)) s') :
    wpAny (model prog w) (callerA.deeper (envOf name sc s₁.heap.objs.size fa cd)) (execs (embSs b_law) (envOf name sc s₁.heap.objs.size fa cd)) Q' E' s := by
  have big : ∃ g o, sysModules < g ∧ s₁.heap.get? g = some o := by
    obtain ⟨_, _, _, _, R⟩ := TR
    obtain ⟨o, _, _, ho, _⟩ := R.g
    exact ⟨mainGlobals, o, by decide, ho⟩
  have G : Gx (KZ w.params) (tauK (KZ w.params)) ⟨w, s₁.heap, s, big⟩ := ⟨KX, TR, k_ok _, trivial⟩
  have Z := law_cx (B := ⟨w, s₁.heap, s, big⟩) (env := envOf name sc s₁.heap.objs.size fa cd) hsc hnc rfl rfl rfl
  have KX' : (KZ w.params).In s.heap := fun a o e => F.keep _ _ (KX a o e)
  have T : Stt ⟨w, s₁.heap, s, big⟩ (lawC (envOf name sc s₁.heap.objs.size fa cd)) ⟨[], tauK (KZ w.params)⟩ ⟨[none, none, none, none, none, none, none], []⟩ s := by
    refine { gens := rfl, drawn := rfl, os := rfl, stays := F.keep, loc := ⟨m, F.ns, fun i x av _ e => ?_⟩, cel := fun _ _ _ _ e => (by cases e), outer := fun q hq => (by cases hq), outs := fun q hq => (by cases hq), objs := ⟨rfl, fun i o e => (by cases e)⟩, tups := ?_, nodup := List.nodup_nil, fresh := fun a ha => (by cases ha), here := ⟨?_, fun q hq => (by cases hq), fun q hq => (by cases hq)⟩, hnd := trivial }
    · have := List.mem_of_getElem? e
      simp at this
    · intro t ht
      simp only [tauK, List.mem_cons, List.not_mem_nil, or_false] at ht
      rcases ht with rfl | rfl | rfl
      · exact tup_at KX' (by kernel_rfl)
      · exact tup_at KX' (by kernel_rfl)
      · exact tup_at KX' (by kernel_rfl)
    · show s₁.heap.get? s₁.heap.objs.size = none
      cases e : s₁.heap.get? s₁.heap.objs.size with
      | none => rfl
      | some o => exact absurd (Heap.lt_size e) (Nat.lt_irrefl _)
  have hA : AOk (lawC (envOf name sc s₁.heap.objs.size fa cd)) (callerA.deeper (envOf name sc s₁.heap.objs.size fa cd)) 13 := ⟨rfl, by show callerA.depth + 1 + 4 * 13 + 20 < recursionLimit; decide +kernel, by show callerA.units + 3 + 30 * 13 + 200 < cLine; decide +kernel, rfl⟩
  have okk := hsc
  simp only [okF, Bool.and_eq_true] at okk
  refine law_all G (exc_ok _) (tab_ok _) (fa_442 _) (sc_442 _) Z ⟨⟨_, rfl⟩, rfl⟩ rfl rfl okk.1.1.1.1.1.1 hA (fun t ht => ht) T hL (ints_vrs hI) hn F.ns hm hloc ⟨fun _ _ _ _ _ h => h.elim, fun W' st' s' av v _ T' r h => ?_, fun _ _ _ _ _ h => h.elim⟩ (fun _ _ _ _ _ _ _ _ h => h.elim)
  have h : av = .bool true := h
  subst h
  cases r
  exact fin s' T'.gens T'.os T'.stays
end Mine
end

noncomputable section
open PySem PySem.W PyProof.Rows
set_option maxRecDepth 100000
set_option maxHeartbeats 8000000
theorem PySem.Challenge.cw_no0384_01_holds : PySem.Challenge.rw_no0384_01.Holds :=
  Mine.hd (by
  intro w s₀ s₁ mg mb G Y fa o pm cd doc dV kV ho hd hcd hD hmg hg args vals as hpre hlay hrd hwl hlo
  have KX := kIn_of Y
  refine Ground.open G ?_
  intro T B D TE TW
  clear B D TE TW
  have TA := at_of_top T
  clear hmg
  wrow_args hpre hlay hrd hwl hlo
  refine enter_call ?_
  w_top on
  try refine codeAny_mono ?_ (fun _ _ g => GoodW.toG g)
  have K0 := below_caller (Top.heap T)
  w_call any ho hd hcd hD T F
  refine Mine.law_join (by assumption) ⟨_, _, _, _, topRead_of (by assumption)⟩ (by assumption) (by assumption) (by omega) (by assumption) rfl (by kernel_rfl) (by kernel_rfl) (by kernel_rfl) fun s' hg' hos hk => ?_
  refine ⟨.inl ⟨.bool true, .bool true, [], rfl, fun _ => rfl, .bool true, ?_, fun _ => ⟨List.nodup_nil, fun a ha => by cases ha⟩⟩, hk, hos, hg'.trans (by assumption)⟩
  first | wrow_post | kc_post)
end
