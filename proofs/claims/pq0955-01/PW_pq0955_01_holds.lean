import PyProof.Rows.All
import Wide.All
import OpenK.AllK
import Wide.FinOn
import PySem.Challenge.RW_pq0955_01
open PySem PySem.W PyProof.Rows PySem.Calls
set_option Elab.async false
set_option compiler.extract_closed false
namespace Mine
section
set_option maxRecDepth 100000

/-- the i-th statement of the text; the j-th of the class there -/
noncomputable def st (i : Nat) : Stmt := (PySem.Challenge.pw_pq0955_01.main.body)[i]?.getD (.Pass ⟨0, 0, 0, 0⟩)
noncomputable def sub (i j : Nat) : Stmt := match st i with
  | .ClassDef _ _ _ b _ _ _ _ _ _ _ => b[j]?.getD (.Pass ⟨0, 0, 0, 0⟩)
  | _ => .Pass ⟨0, 0, 0, 0⟩
noncomputable abbrev mkFo {i : Stmt} {n : Str} {a : Arguments} {b : List Stmt} {ds : List Expr} {ret : Option Expr} {tps : List TypeParam} {sc : Scope} {tsc : Option Scope} {bd : Str} {pos : Pos}
    (_h : i = .FunctionDef n a b ds ret tps sc tsc bd pos) (q : Str) (c : Addr) (pm : Str) (pt : Tok) : Obj :=
  ⟨.type "function", none, .func (fnOf n q a b sc .none .none .none (.str pm pt) none (.ref c) .none), #[]⟩
noncomputable abbrev mkCo (n q : Str) (t0 t1 t2 : Tok) (l f4 f5 f6 f7 : Int) (f8 : Addr) (f10 : Int) (f11 : Addr) (f13 f14 : Value) (f15 : Addr) (f16 f17 : Int) (t18 : Tok) : Obj :=
  ⟨.type "code", none, .fields #[.str n t0, .str q t1, .str (Str.ofString "/claim/cut.py") t2, .int l 0, .int f4 0, .int f5 0, .int f6 0, .int f7 0, .ref f8, .bool true, .int f10 0, .ref f11, .none, f13, f14, .ref f15, .int f16 0, .int f17 0, .str (Str.ofString "/claim/cut.py") t18], #[]⟩
noncomputable abbrev E (P : Params) (x : Str) (t : Tok) (v : Value) : DictEntry := ⟨PyData.keyHash P x, .str x t, v⟩
noncomputable abbrev mkCls (n : Str) (a ns : Addr) : ClassData := { name := n, bases := [.type "object"], mro := [.ref a, .type "object"], ns := ns, qualname := n }
noncomputable def o3 : Params → Obj := fun P => ⟨.type "dict", none, .dict [E P (Str.ofString "__name__") 165 (.str (Str.ofString "law_pq0955_01") 1376),
  E P (Str.ofString "__doc__") 166 (.none),
  E P (Str.ofString "__package__") 167 (.none),
  E P (Str.ofString "__loader__") 168 (.builtin "__main__.__loader__#opaque"),
  E P (Str.ofString "__spec__") 169 (.none),
  E P (Str.ofString "__annotations__") 170 (.ref 6),
  E P (Str.ofString "__builtins__") 171 (.ref 4),
  E P (Str.ofString "__file__") 173 (.str (Str.ofString "/claim/cut.py") 172),
  E P (Str.ofString "__cached__") 174 (.none),
  E P (Str.ofString "PostError") 228 (.ref 39),
  E P (Str.ofString "WordFault") 244 (.ref 52),
  E P (Str.ofString "MimeFault") 260 (.ref 64),
  E P (Str.ofString "StoreFault") 276 (.ref 76),
  E P (Str.ofString "SYSTEM") 280 (.str (Str.ofString "\\Seen \\Answered \\Flagged \\Deleted \\Draft") 279),
  E P (Str.ofString "NO_KEYWORD") 282 (.str (Str.ofString "(){ %*\"\\]") 281),
  E P (Str.ofString "MOST_KEYWORD") 284 (.int 60 283),
  E P (Str.ofString "system_flags") 290 (.ref 85),
  E P (Str.ofString "is_keyword") 298 (.ref 92),
  E P (Str.ofString "flag_name") 306 (.ref 99),
  E P (Str.ofString "Letter") 358 (.ref 130),
  E P (Str.ofString "lower_code") 367 (.ref 141),
  E P (Str.ofString "lower_text") 373 (.ref 146),
  E P (Str.ofString "ASCII") 377 (.str (Str.ofString "us-ascii") 376),
  E P (Str.ofString "LATIN") 379 (.str (Str.ofString "iso-8859-1") 378),
  E P (Str.ofString "UTF8") 381 (.str (Str.ofString "utf-8") 380),
  E P (Str.ofString "CHARSETS") 382 (.ref 147),
  E P (Str.ofString "UNKNOWN_SIGN") 385 (.str (Str.ofString "\ufffd") 384),
  E P (Str.ofString "charset_names") 393 (.ref 154),
  E P (Str.ofString "charset_name") 400 (.ref 161),
  E P (Str.ofString "need_charset") 407 (.ref 168),
  E P (Str.ofString "follower_span") 414 (.ref 175),
  E P (Str.ofString "utf8_sign") 428 (.ref 182),
  E P (Str.ofString "sign_at") 437 (.ref 189),
  E P (Str.ofString "text_in") 449 (.ref 196),
  E P (Str.ofString "strict_text") 461 (.ref 203),
  E P (Str.ofString "guessed_text") 468 (.ref 210),
  E P (Str.ofString "MOST_DEPTH_tokens") 472 (.int 20 471),
  E P (Str.ofString "SIGNS_tokens") 474 (.bytes #[60, 62, 64, 44, 59, 58, 46, 92] 473),
  E P (Str.ofString "ATOM_SIGNS") 476 (.bytes #[33, 35, 36, 37, 38, 39, 42, 43, 45, 47, 61, 63, 94, 95, 96, 123, 124, 125, 126] 475),
  E P (Str.ofString "NEVER_ESCAPED") 480 (.ref 211),
  E P (Str.ofString "is_atom_code") 487 (.ref 218),
  E P (Str.ofString "line_end") 495 (.ref 225),
  E P (Str.ofString "inside_at") 505 (.ref 232),
  E P (Str.ofString "closed_at") 518 (.ref 239),
  E P (Str.ofString "comment_at") 531 (.ref 246),
  E P (Str.ofString "atom_at") 540 (.ref 253),
  E P (Str.ofString "token_at") 551 (.ref 260),
  E P (Str.ofString "past_white") 560 (.ref 267),
  E P (Str.ofString "tokens_of") 570 (.ref 274),
  E P (Str.ofString "without_comments") 576 (.ref 279),
  E P (Str.ofString "MONTHS") 591 (.ref 280),
  E P (Str.ofString "DAYS") 599 (.ref 281),
  E P (Str.ofString "MOST_YEAR") 601 (.int 9999 600),
  E P (Str.ofString "DAY_SECONDS") 603 (.int 86400 602),
  E P (Str.ofString "FIRST_DAY") 605 (.int 719162 604),
  E P (Str.ofString "Moment") 653 (.ref 305),
  E P (Str.ofString "is_leap") 660 (.ref 316),
  E P (Str.ofString "month_length") 668 (.ref 323),
  E P (Str.ofString "days_before_year") 676 (.ref 330),
  E P (Str.ofString "day_told") 687 (.ref 337),
  E P (Str.ofString "is_day") 696 (.ref 344),
  E P (Str.ofString "is_time") 705 (.ref 351),
  E P (Str.ofString "day_of") 714 (.ref 359),
  E P (Str.ofString "month_number") 720 (.ref 364),
  E P (Str.ofString "is_day_name") 726 (.ref 369),
  E P (Str.ofString "is_figures") 732 (.ref 374),
  E P (Str.ofString "zone_in") 740 (.ref 381),
  E P (Str.ofString "named_zone") 746 (.ref 386),
  E P (Str.ofString "DateReader") 817 (.ref 436),
  E P (Str.ofString "full_year") 825 (.ref 447),
  E P (Str.ofString "read_clock") 835 (.ref 454),
  E P (Str.ofString "read_zone") 844 (.ref 461),
  E P (Str.ofString "read_date") 862 (.ref 468),
  E P (Str.ofString "line_at") 874 (.ref 475),
  E P (Str.ofString "rows_of") 885 (.ref 482),
  E P (Str.ofString "unfolded") 892 (.ref 489),
  E P (Str.ofString "first_body") 902 (.ref 496),
  E P (Str.ofString "SIGNS_base64") 906 (.bytes #[65, 66, 67, 68, 69, 70, 71, 72, 73, 74, 75, 76, 77, 78, 79, 80, 81, 82, 83, 84, 85, 86, 87, 88, 89, 90, 97, 98, 99, 100, 101, 102, 103, 104, 105, 106, 107, 108, 109, 110, 111, 112, 113, 114, 115, 116, 117, 118, 119, 120, 121, 122, 48, 49, 50, 51, 52, 53, 54, 55, 56, 57, 43, 47] 905),
  E P (Str.ofString "PAD") 908 (.int 61 907),
  E P (Str.ofString "worth_table") 914 (.ref 501),
  E P (Str.ofString "group_octets") 920 (.ref 506),
  E P (Str.ofString "decoded") 932 (.ref 513),
  E P (Str.ofString "EQUALS") 936 (.int 61 935),
  E P (Str.ofString "BLANK") 938 (.int 32 937),
  E P (Str.ofString "RETURN") 940 (.int 13 939),
  E P (Str.ofString "UNDERLINE") 942 (.int 95 941),
  E P (Str.ofString "hex_worth") 949 (.ref 520),
  E P (Str.ofString "quoted_at") 959 (.ref 527),
  E P (Str.ofString "line_parts") 969 (.ref 534),
  E P (Str.ofString "unquoted") 979 (.ref 541),
  E P (Str.ofString "quoted_decoded") 990 (.ref 548),
  E P (Str.ofString "word_q_decoded") 996 (.ref 553),
  E P (Str.ofString "undone") 1006 (.ref 560),
  E P (Str.ofString "body_octets") 1014 (.ref 567),
  E P (Str.ofString "body_text") 1023 (.ref 574),
  E P (Str.ofString "row_of") 1033 (.ref 581),
  E P (Str.ofString "decide") 1043 (.ref 588),
  E P (Str.ofString "ends_of") 1055 (.ref 595),
  E P (Str.ofString "ranges_of") 1064 (.ref 602),
  E P (Str.ofString "has") 1075 (.ref 609),
  E P (Str.ofString "WHITE") 1082 (.ref 610),
  E P (Str.ofString "OPENING") 1084 (.int 40 1083),
  E P (Str.ofString "CLOSING") 1086 (.int 41 1085),
  E P (Str.ofString "WAYS") 1089 (.ref 611),
  E P (Str.ofString "is_word_sign") 1096 (.ref 618),
  E P (Str.ofString "part_end") 1105 (.ref 625),
  E P (Str.ofString "word_parts") 1111 (.ref 630),
  E P (Str.ofString "is_apart") 1120 (.ref 637),
  E P (Str.ofString "plain_text") 1126 (.ref 642),
  E P (Str.ofString "word_at") 1138 (.ref 649),
  E P (Str.ofString "pieces_of") 1149 (.ref 656),
  E P (Str.ofString "all_white") 1155 (.ref 661),
  E P (Str.ofString "decoded_words") 1167 (.ref 668),
  E P (Str.ofString "MOST_DEPTH_search") 1171 (.int 20 1170),
  E P (Str.ofString "Seen") 1204 (.ref 685),
  E P (Str.ofString "is_within") 1212 (.ref 696),
  E P (Str.ofString "field_text") 1219 (.ref 703),
  E P (Str.ofString "field_line") 1226 (.ref 710),
  E P (Str.ofString "header_holds") 1236 (.ref 717),
  E P (Str.ofString "head_holds") 1245 (.ref 724),
  E P (Str.ofString "inner_holds") 1255 (.ref 731),
  E P (Str.ofString "texts_hold") 1267 (.ref 739),
  E P (Str.ofString "look_holds") 1276 (.ref 746),
  E P (Str.ofString "day_holds") 1285 (.ref 753),
  E P (Str.ofString "sent_day") 1294 (.ref 760),
  E P (Str.ofString "sent_holds") 1303 (.ref 767),
  E P (Str.ofString "number_holds") 1315 (.ref 774),
  E P (Str.ofString "simple_holds") 1325 (.ref 781),
  E P (Str.ofString "leaf_holds") 1334 (.ref 788),
  E P (Str.ofString "matches") 1345 (.ref 795),
  E P (Str.ofString "context_of") 1352 (.ref 802),
  E P (Str.ofString "search_seen") 1358 (.ref 807),
  E P (Str.ofString "esearch") 1367 (.ref 814),
  E P (Str.ofString "by_uid") 1375 (.ref 819),
  E P (Str.ofString "_law_FLAGS") 1383 (.ref 820),
  E P (Str.ofString "_law_store") 1389 (.ref 825),
  E P (Str.ofString "_law_taken") 1401 (.ref 832),
  E P (Str.ofString "_law_letters") 1407 (.ref 837),
  E P (Str.ofString "_law_some") 1413 (.ref 842),
  E P (Str.ofString "_law_tree") 1419 (.ref 847),
  E P (Str.ofString "_law_has") 1425 (.ref 852),
  E P (Str.ofString "_law_is_met") 1431 (.ref 857),
  E P (Str.ofString "_law_due") 1437 (.ref 862),
  E P (Str.ofString "_law_pairs") 1443 (.ref 867),
  E P (Str.ofString "law") 1449 (.ref 872)].toArray 145, #[]⟩
noncomputable def o84 : Params → Obj := fun _ => mkCo (Str.ofString "system_flags") (Str.ofString "system_flags") 285 286 287 21 0 0 0 3 79 181 80 (.ref 81) (.ref 82) 83 288 21 289
noncomputable def o85 : Params → Obj := fun _ => mkFo (i := st 9) rfl (Str.ofString "system_flags") 84 (Str.ofString "postkeep.boxes") 277
noncomputable def o91 : Params → Obj := fun _ => mkCo (Str.ofString "is_keyword") (Str.ofString "is_keyword") 291 292 293 23 1 0 0 3 86 181 87 (.ref 88) (.ref 89) 90 296 23 297
noncomputable def o92 : Params → Obj := fun _ => mkFo (i := st 10) rfl (Str.ofString "is_keyword") 91 (Str.ofString "postkeep.boxes") 277
noncomputable def o98 : Params → Obj := fun _ => mkCo (Str.ofString "flag_name") (Str.ofString "flag_name") 299 300 301 30 1 0 0 3 93 181 94 (.ref 95) (.ref 96) 97 304 30 305
noncomputable def o99 : Params → Obj := fun _ => mkFo (i := st 11) rfl (Str.ofString "flag_name") 98 (Str.ofString "postkeep.boxes") 277
noncomputable def o112 : Params → Obj := fun _ => mkCo (Str.ofString "__init__") (Str.ofString "Letter.__init__") 319 320 321 39 6 0 0 3 107 181 108 (.ref 109) (.ref 110) 111 328 39 329
noncomputable def o113 : Params → Obj := fun _ => mkFo (i := sub 12 0) rfl (Str.ofString "Letter.__init__") 112 (Str.ofString "postkeep.boxes") 277
noncomputable def o119 : Params → Obj := fun _ => mkCo (Str.ofString "has") (Str.ofString "Letter.has") 331 332 333 46 2 0 0 3 114 181 115 (.ref 116) (.ref 117) 118 336 46 337
noncomputable def o120 : Params → Obj := fun _ => mkFo (i := sub 12 1) rfl (Str.ofString "Letter.has") 119 (Str.ofString "postkeep.boxes") 277
noncomputable def o126 : Params → Obj := fun _ => mkCo (Str.ofString "told") (Str.ofString "Letter.told") 339 340 341 49 1 0 0 3 121 181 122 (.ref 123) (.ref 124) 125 343 49 344
noncomputable def o127 : Params → Obj := fun _ => mkFo (i := sub 12 2) rfl (Str.ofString "Letter.told") 126 (Str.ofString "postkeep.boxes") 277
noncomputable def o129 : Params → Obj := fun P => ⟨.type "dict", none, .dict [E P (Str.ofString "__module__") 314 (.str (Str.ofString "postkeep.boxes") 277),
  E P (Str.ofString "__firstlineno__") 318 (.int 37 317),
  E P (Str.ofString "__init__") 330 (.ref 113),
  E P (Str.ofString "has") 338 (.ref 120),
  E P (Str.ofString "told") 345 (.ref 127),
  E P (Str.ofString "__static_attributes__") 351 (.ref 128),
  E P (Str.ofString "__dict__") 353 (.ref 131),
  E P (Str.ofString "__weakref__") 355 (.ref 132),
  E P (Str.ofString "__doc__") 356 (.none)].toArray 4, #[]⟩
noncomputable def o130 : Params → Obj := fun _ => ⟨.type "type", none, .cls (mkCls (Str.ofString "Letter") 130 129), #[none, none, some (.str (Str.ofString "Letter") 307), some (.str (Str.ofString "Letter") 315), some (.builtin "object.__new__"), some (.bool true)]⟩
noncomputable def o580 : Params → Obj := fun _ => mkCo (Str.ofString "row_of") (Str.ofString "row_of") 1026 1027 1028 469 1 0 0 3 575 181 576 (.ref 577) (.ref 578) 579 1031 469 1032
noncomputable def o581 : Params → Obj := fun _ => mkFo (i := st 97) rfl (Str.ofString "row_of") 580 (Str.ofString "postkeep.query") 1024
noncomputable def o587 : Params → Obj := fun _ => mkCo (Str.ofString "decide") (Str.ofString "decide") 1034 1035 1036 476 2 0 0 3 582 181 583 (.ref 584) (.ref 585) 586 1041 476 1042
noncomputable def o588 : Params → Obj := fun _ => mkFo (i := st 98) rfl (Str.ofString "decide") 587 (Str.ofString "postkeep.query") 1024
noncomputable def o594 : Params → Obj := fun _ => mkCo (Str.ofString "ends_of") (Str.ofString "ends_of") 1046 1047 1048 491 2 0 0 3 589 181 590 (.ref 591) (.ref 592) 593 1053 491 1054
noncomputable def o595 : Params → Obj := fun _ => mkFo (i := st 100) rfl (Str.ofString "ends_of") 594 (Str.ofString "postkeep.sets") 1044
noncomputable def o601 : Params → Obj := fun _ => mkCo (Str.ofString "ranges_of") (Str.ofString "ranges_of") 1056 1057 1058 500 1 0 0 3 596 181 597 (.ref 598) (.ref 599) 600 1062 500 1063
noncomputable def o602 : Params → Obj := fun _ => mkFo (i := st 101) rfl (Str.ofString "ranges_of") 601 (Str.ofString "postkeep.sets") 1044
noncomputable def o608 : Params → Obj := fun _ => mkCo (Str.ofString "has") (Str.ofString "has") 1065 1066 1067 508 3 0 0 3 603 181 604 (.ref 605) (.ref 606) 607 1073 508 1074
noncomputable def o609 : Params → Obj := fun _ => mkFo (i := st 102) rfl (Str.ofString "has") 608 (Str.ofString "postkeep.sets") 1044
noncomputable def o681 : Params → Obj := fun _ => mkCo (Str.ofString "__init__") (Str.ofString "Seen.__init__") 1184 1185 1186 585 4 0 0 3 676 181 677 (.ref 678) (.ref 679) 680 1191 585 1192
noncomputable def o682 : Params → Obj := fun _ => mkFo (i := sub 119 0) rfl (Str.ofString "Seen.__init__") 681 (Str.ofString "postkeep.search") 1168
noncomputable def o684 : Params → Obj := fun P => ⟨.type "dict", none, .dict [E P (Str.ofString "__module__") 1179 (.str (Str.ofString "postkeep.search") 1168),
  E P (Str.ofString "__firstlineno__") 1183 (.int 583 1182),
  E P (Str.ofString "__init__") 1193 (.ref 682),
  E P (Str.ofString "__static_attributes__") 1197 (.ref 683),
  E P (Str.ofString "__dict__") 1199 (.ref 686),
  E P (Str.ofString "__weakref__") 1201 (.ref 687),
  E P (Str.ofString "__doc__") 1202 (.none)].toArray 4, #[]⟩
noncomputable def o685 : Params → Obj := fun _ => ⟨.type "type", none, .cls (mkCls (Str.ofString "Seen") 685 684), #[none, none, some (.str (Str.ofString "Seen") 1172), some (.str (Str.ofString "Seen") 1180), some (.builtin "object.__new__"), some (.bool true)]⟩
noncomputable def o773 : Params → Obj := fun _ => mkCo (Str.ofString "number_holds") (Str.ofString "number_holds") 1304 1305 1306 640 4 0 0 3 768 181 769 (.ref 770) (.ref 771) 772 1313 640 1314
noncomputable def o774 : Params → Obj := fun _ => mkFo (i := st 131) rfl (Str.ofString "number_holds") 773 (Str.ofString "postkeep.search") 1168
noncomputable def o780 : Params → Obj := fun _ => mkCo (Str.ofString "simple_holds") (Str.ofString "simple_holds") 1316 1317 1318 649 4 0 0 3 775 181 776 (.ref 777) (.ref 778) 779 1323 649 1324
noncomputable def o781 : Params → Obj := fun _ => mkFo (i := st 132) rfl (Str.ofString "simple_holds") 780 (Str.ofString "postkeep.search") 1168
noncomputable def o787 : Params → Obj := fun _ => mkCo (Str.ofString "leaf_holds") (Str.ofString "leaf_holds") 1326 1327 1328 655 3 0 0 3 782 181 783 (.ref 784) (.ref 785) 786 1332 655 1333
noncomputable def o788 : Params → Obj := fun _ => mkFo (i := st 133) rfl (Str.ofString "leaf_holds") 787 (Str.ofString "postkeep.search") 1168
noncomputable def o794 : Params → Obj := fun _ => mkCo (Str.ofString "matches") (Str.ofString "matches") 1335 1336 1337 661 3 0 0 3 789 181 790 (.ref 791) (.ref 792) 793 1343 661 1344
noncomputable def o795 : Params → Obj := fun _ => mkFo (i := st 134) rfl (Str.ofString "matches") 794 (Str.ofString "postkeep.search") 1168
noncomputable def o801 : Params → Obj := fun _ => mkCo (Str.ofString "context_of") (Str.ofString "context_of") 1346 1347 1348 663 1 0 0 3 796 181 797 (.ref 798) (.ref 799) 800 1350 663 1351
noncomputable def o802 : Params → Obj := fun _ => mkFo (i := st 135) rfl (Str.ofString "context_of") 801 (Str.ofString "postkeep.search") 1168
noncomputable def o806 : Params → Obj := fun _ => mkCo (Str.ofString "search_seen") (Str.ofString "search_seen") 1353 1354 1355 665 2 0 0 3 803 181 804 (.none) (.none) 805 1356 665 1357
noncomputable def o807 : Params → Obj := fun _ => mkFo (i := st 136) rfl (Str.ofString "search_seen") 806 (Str.ofString "postkeep.search") 1168
noncomputable def o813 : Params → Obj := fun _ => mkCo (Str.ofString "esearch") (Str.ofString "esearch") 1359 1360 1361 668 2 0 0 3 808 181 809 (.ref 810) (.ref 811) 812 1365 668 1366
noncomputable def o814 : Params → Obj := fun _ => mkFo (i := st 137) rfl (Str.ofString "esearch") 813 (Str.ofString "postkeep.search") 1168
noncomputable def o818 : Params → Obj := fun _ => mkCo (Str.ofString "by_uid") (Str.ofString "by_uid") 1370 1371 1372 681 1 0 0 3 815 181 816 (.none) (.none) 817 1373 681 1374
noncomputable def o819 : Params → Obj := fun _ => mkFo (i := st 139) rfl (Str.ofString "by_uid") 818 (Str.ofString "postkeep.finding") 1368
noncomputable def o820 : Params → Obj := fun _ => ⟨.type "tuple", none, .seq #[.str (Str.ofString "\\Seen") 1378, .str (Str.ofString "\\Draft") 1379, .str (Str.ofString "\\Answered") 1380, .str (Str.ofString "work") 1381, .str (Str.ofString "Work") 1382] 0, #[]⟩
noncomputable def o824 : Params → Obj := fun _ => mkCo (Str.ofString "_law_store") (Str.ofString "_law_store") 1384 1385 1386 685 1 0 0 3 821 181 822 (.none) (.none) 823 1387 685 1388
noncomputable def o825 : Params → Obj := fun _ => mkFo (i := st 142) rfl (Str.ofString "_law_store") 824 (Str.ofString "law_pq0955_01") 1376
noncomputable def o831 : Params → Obj := fun _ => mkCo (Str.ofString "_law_taken") (Str.ofString "_law_taken") 1390 1391 1392 687 2 0 0 3 826 181 827 (.ref 828) (.ref 829) 830 1399 687 1400
noncomputable def o832 : Params → Obj := fun _ => mkFo (i := st 143) rfl (Str.ofString "_law_taken") 831 (Str.ofString "law_pq0955_01") 1376
noncomputable def o836 : Params → Obj := fun _ => mkCo (Str.ofString "_law_letters") (Str.ofString "_law_letters") 1402 1403 1404 699 1 0 0 3 833 181 834 (.none) (.none) 835 1405 699 1406
noncomputable def o837 : Params → Obj := fun _ => mkFo (i := st 144) rfl (Str.ofString "_law_letters") 836 (Str.ofString "law_pq0955_01") 1376
noncomputable def o841 : Params → Obj := fun _ => mkCo (Str.ofString "_law_some") (Str.ofString "_law_some") 1408 1409 1410 707 1 0 0 3 838 181 839 (.none) (.none) 840 1411 707 1412
noncomputable def o842 : Params → Obj := fun _ => mkFo (i := st 145) rfl (Str.ofString "_law_some") 841 (Str.ofString "law_pq0955_01") 1376
noncomputable def o846 : Params → Obj := fun _ => mkCo (Str.ofString "_law_tree") (Str.ofString "_law_tree") 1414 1415 1416 709 2 0 0 3 843 181 844 (.none) (.none) 845 1417 709 1418
noncomputable def o847 : Params → Obj := fun _ => mkFo (i := st 146) rfl (Str.ofString "_law_tree") 846 (Str.ofString "law_pq0955_01") 1376
noncomputable def o851 : Params → Obj := fun _ => mkCo (Str.ofString "_law_has") (Str.ofString "_law_has") 1420 1421 1422 722 3 0 0 3 848 181 849 (.none) (.none) 850 1423 722 1424
noncomputable def o852 : Params → Obj := fun _ => mkFo (i := st 147) rfl (Str.ofString "_law_has") 851 (Str.ofString "law_pq0955_01") 1376
noncomputable def o856 : Params → Obj := fun _ => mkCo (Str.ofString "_law_is_met") (Str.ofString "_law_is_met") 1426 1427 1428 728 4 0 0 3 853 181 854 (.none) (.none) 855 1429 728 1430
noncomputable def o857 : Params → Obj := fun _ => mkFo (i := st 148) rfl (Str.ofString "_law_is_met") 856 (Str.ofString "law_pq0955_01") 1376
noncomputable def o861 : Params → Obj := fun _ => mkCo (Str.ofString "_law_due") (Str.ofString "_law_due") 1432 1433 1434 742 3 0 0 3 858 181 859 (.none) (.none) 860 1435 742 1436
noncomputable def o862 : Params → Obj := fun _ => mkFo (i := st 149) rfl (Str.ofString "_law_due") 861 (Str.ofString "law_pq0955_01") 1376
noncomputable def o866 : Params → Obj := fun _ => mkCo (Str.ofString "_law_pairs") (Str.ofString "_law_pairs") 1438 1439 1440 745 2 0 0 3 863 181 864 (.none) (.none) 865 1441 745 1442
noncomputable def o867 : Params → Obj := fun _ => mkFo (i := st 150) rfl (Str.ofString "_law_pairs") 866 (Str.ofString "law_pq0955_01") 1376
noncomputable def o871 : Params → Obj := fun _ => mkCo (Str.ofString "law") (Str.ofString "law") 1444 1445 1446 756 1 0 0 3 868 181 869 (.none) (.none) 870 1447 756 1448
noncomputable def o872 : Params → Obj := fun _ => mkFo (i := st 151) rfl (Str.ofString "law") 871 (Str.ofString "law_pq0955_01") 1376
noncomputable def heapK : Params → Frag := fun P => (nat_lit 3, o3 P) :: (nat_lit 84, o84 P) :: (nat_lit 85, o85 P) :: (nat_lit 91, o91 P) :: (nat_lit 92, o92 P) :: (nat_lit 98, o98 P) :: (nat_lit 99, o99 P) :: (nat_lit 112, o112 P) :: (nat_lit 113, o113 P) :: (nat_lit 119, o119 P) :: (nat_lit 120, o120 P) :: (nat_lit 126, o126 P) :: (nat_lit 127, o127 P) :: (nat_lit 129, o129 P) :: (nat_lit 130, o130 P) :: (nat_lit 580, o580 P) :: (nat_lit 581, o581 P) :: (nat_lit 587, o587 P) :: (nat_lit 588, o588 P) :: (nat_lit 594, o594 P) :: (nat_lit 595, o595 P) :: (nat_lit 601, o601 P) :: (nat_lit 602, o602 P) :: (nat_lit 608, o608 P) :: (nat_lit 609, o609 P) :: (nat_lit 681, o681 P) :: (nat_lit 682, o682 P) :: (nat_lit 684, o684 P) :: (nat_lit 685, o685 P) :: (nat_lit 773, o773 P) :: (nat_lit 774, o774 P) :: (nat_lit 780, o780 P) :: (nat_lit 781, o781 P) :: (nat_lit 787, o787 P) :: (nat_lit 788, o788 P) :: (nat_lit 794, o794 P) :: (nat_lit 795, o795 P) :: (nat_lit 801, o801 P) :: (nat_lit 802, o802 P) :: (nat_lit 806, o806 P) :: (nat_lit 807, o807 P) :: (nat_lit 813, o813 P) :: (nat_lit 814, o814 P) :: (nat_lit 818, o818 P) :: (nat_lit 819, o819 P) :: (nat_lit 820, o820 P) :: (nat_lit 824, o824 P) :: (nat_lit 825, o825 P) :: (nat_lit 831, o831 P) :: (nat_lit 832, o832 P) :: (nat_lit 836, o836 P) :: (nat_lit 837, o837 P) :: (nat_lit 841, o841 P) :: (nat_lit 842, o842 P) :: (nat_lit 846, o846 P) :: (nat_lit 847, o847 P) :: (nat_lit 851, o851 P) :: (nat_lit 852, o852 P) :: (nat_lit 856, o856 P) :: (nat_lit 857, o857 P) :: (nat_lit 861, o861 P) :: (nat_lit 862, o862 P) :: (nat_lit 866, o866 P) :: (nat_lit 867, o867 P) :: (nat_lit 871, o871 P) :: (nat_lit 872, o872 P) :: []
noncomputable def asK : List Addr := nat_lit 3 :: nat_lit 84 :: nat_lit 85 :: nat_lit 91 :: nat_lit 92 :: nat_lit 98 :: nat_lit 99 :: nat_lit 112 :: nat_lit 113 :: nat_lit 119 :: nat_lit 120 :: nat_lit 126 :: nat_lit 127 :: nat_lit 129 :: nat_lit 130 :: nat_lit 580 :: nat_lit 581 :: nat_lit 587 :: nat_lit 588 :: nat_lit 594 :: nat_lit 595 :: nat_lit 601 :: nat_lit 602 :: nat_lit 608 :: nat_lit 609 :: nat_lit 681 :: nat_lit 682 :: nat_lit 684 :: nat_lit 685 :: nat_lit 773 :: nat_lit 774 :: nat_lit 780 :: nat_lit 781 :: nat_lit 787 :: nat_lit 788 :: nat_lit 794 :: nat_lit 795 :: nat_lit 801 :: nat_lit 802 :: nat_lit 806 :: nat_lit 807 :: nat_lit 813 :: nat_lit 814 :: nat_lit 818 :: nat_lit 819 :: nat_lit 820 :: nat_lit 824 :: nat_lit 825 :: nat_lit 831 :: nat_lit 832 :: nat_lit 836 :: nat_lit 837 :: nat_lit 841 :: nat_lit 842 :: nat_lit 846 :: nat_lit 847 :: nat_lit 851 :: nat_lit 852 :: nat_lit 856 :: nat_lit 857 :: nat_lit 861 :: nat_lit 862 :: nat_lit 866 :: nat_lit 867 :: nat_lit 871 :: nat_lit 872 :: []
end
end Mine
namespace Mine
section
set_option maxRecDepth 100000
noncomputable abbrev PW : Program := PySem.Challenge.pw_pq0955_01
noncomputable def env0 : Env := { scope := PW.main.scope, locals := mainNs, globals := mainNs, cells := [], code := .ref 13, frame := some 14 }
noncomputable abbrev cB : Code := .body (behindTheImports PW) env0
noncomputable abbrev pos0 : Pos := ⟨0, 0, 0, 0⟩
noncomputable abbrev posL : Pos := ⟨756, 0, 774, 76⟩
noncomputable abbrev ann0 : Option Value := some (.ref 6)
noncomputable def x11 : Obj := { cls := .type "tuple", data := .seq #[] 0 }
noncomputable def x12 : Obj := { cls := .none, data := .fields #[] }
noncomputable def x13 : Obj := { cls := .type "code", data := .fields #[.str (Str.ofString "<module>") 182, .str (Str.ofString "<module>") 183, .str (Str.ofString "/claim/cut.py") 184, .int 1 0, .int 0 0, .int 0 0, .int 0 0, .int 0 0, .ref 11, .bool false, .int 181 0, .ref 12, .none, .none, .none, .none, .int 185 0, .int 1 0, .str (Str.ofString "/claim/cut.py") 186] }
noncomputable def x14 : Obj := { cls := .type "frame", slots := #[some (.ref 13), some (.ref 3), some (.ref 3), none, some (.str (Str.ofString "__main__") 164), none, some (.ref 0)] }
noncomputable def treeOf : Nat → List Obj → BT → BT
  | _, [], t => t
  | n, o :: r, t => treeOf (n + 1) r (t.ins n o)
noncomputable def tree0 (P : Params) : BT := treeOf 0 [boot_o_0 P, boot_o_1 P, boot_o_2 P, boot_o_3 P, boot_o_4 P, boot_o_5 P, boot_o_6 P, boot_o_7 P, boot_o_8 P, boot_o_9 P, boot_o_10 P, x11, x12, x13, x14] .nil
noncomputable def S0 (P : Params) (os : OsState) : SharedT := ⟨tree0 P, 15, {}, #[], {}, 187, os⟩
set_option maxHeartbeats 0 in
theorem pre_run (w : World) (os : OsState) : topGo treeTable PW w 11 ann0 12 ⟨boot_heap w.params, #[], boot_drawn, boot_toks, os⟩ (topStub PW) = some ((S0 w.params os).abs, ⟨denote treeTable cB, cB, pos0, [topFrame pos0]⟩) := by
  rw [PySem.W.Fast.te15667345088766844465, PySem.W.Fast.te11892475500146522536]
  kernel_rfl
theorem block_run (w : World) (os : OsState) : segRun treeTable PW w 11 ann0 1 1 (S0 w.params os).abs (blockOf (behindTheImports PW) env0 cB pos0 [topFrame pos0]) = some (.next, (S0 w.params os).abs, cB, pos0) := by
  kernel_rfl
theorem fin_run {p : Program} (w : World) (s : Shared) (c : Code) (q : Pos) : topRun treeTable p w 11 ann0 2 s ⟨doneF .next, c, q, [topFrame pos0]⟩ = some s := by
  rfl
end
end Mine
namespace Mine
section
set_option maxRecDepth 100000
/-! ### the head: the top's run, by one evaluation -/
noncomputable def qV : Program := { PW with main := { PW.main with body := [st 151] } }
noncomputable def looseV : List Str := PW.boundNames.filter fun x => !(x == Str.ofString "law" || startupNames.contains x)
noncomputable abbrev RW7 : RowW := OpenRow.toRowW (OpenLaw.row PySem.Challenge.rw_pq0955_01)
noncomputable def XtV (s : Shared) : Bool := xlAt qV [] s && recOk (RowW.records RW7) s
noncomputable def obsA (P : Params) (s : Shared) : Bool := staticsOk [] (boot_heap P) s.heap && namesBound PW s.heap && gensDone s && laidKept (boot_heap P) s.heap
theorem asE : ∀ P, asK = (heapK P).map (·.1) := fun _ => rfl
noncomputable abbrev HK : Hook := kmHook heapK asK asE [790]
noncomputable def runV (w : World) (os : OsState) := segRunT treeTable PW w 11 ann0 1 5600 (S0 w.params os) (piecesOf (behindTheImports PW) env0 cB pos0 [topFrame pos0])
/- three evaluations of the run, one for each look: less memory at a time than one with all three -/
set_option maxHeartbeats 0 in
theorem run_a (w : World) (os : OsState) : (runV w os).map (fun r => (r.1, r.2.2.1, r.2.2.2, obsA w.params r.2.1.abs)) = some (.next, cB, posL, true) := by
  unfold runV piecesOf
  rw [PySem.W.Fast.te12563942051412417395, PySem.W.Fast.te10110043849684766642, PySem.W.Fast.te14364793385576792824]
  kernel_rfl
set_option maxHeartbeats 0 in
theorem run_b (w : World) (os : OsState) : (runV w os).map (fun r => openSeen qV looseV [] XtV true r.2.1.abs) = some (openGood qV looseV) := by
  unfold runV piecesOf
  rw [PySem.W.Fast.te12563942051412417395, PySem.W.Fast.te10110043849684766642, PySem.W.Fast.te14364793385576792824, PySem.W.Fast.te4187177175401517315]
  kernel_rfl
set_option maxHeartbeats 0 in
theorem run_c (w : World) (os : OsState) : (runV w os).map (fun r => HK.obs r.2.1.abs) = some (HK.val w) := by
  unfold runV piecesOf
  rw [PySem.W.Fast.te12563942051412417395, PySem.W.Fast.te10110043849684766642, PySem.W.Fast.te14364793385576792824]
  kernel_rfl
theorem map_two {α β γ : Type} {x : Option α} {f : α → β} {g : α → γ} {b : β} {c : γ} (h : x.map f = some b) (k : x.map g = some c) : ∃ r, x = some r ∧ f r = b ∧ g r = c := by
  obtain ⟨r, hr, e⟩ := Option.map_eq_some_iff.mp h
  rw [hr] at k
  exact ⟨r, hr, e, Option.some.inj k⟩
theorem main_run (w : World) (os : OsState) : ∃ r, runV w os = some r ∧ (r.1, r.2.2.1, r.2.2.2, obsA w.params r.2.1.abs, openSeen qV looseV [] XtV true r.2.1.abs, HK.obs r.2.1.abs) = (.next, cB, posL, true, openGood qV looseV, HK.val w) := by
  obtain ⟨r, e, a, b⟩ := map_two (run_a w os) (run_b w os)
  obtain ⟨r', e', _, c⟩ := map_two (run_a w os) (run_c w os)
  obtain rfl : r = r' := Option.some.inj (e.symm.trans e')
  refine ⟨r, e, ?_⟩
  rw [b, c]
  exact congrArg (fun x : Flow × Code × Pos × Bool => (x.1, x.2.1, x.2.2.1, x.2.2.2, openGood qV looseV, HK.val w)) a
theorem opening_is : opening PW = plainProg PW.main.scope.names := by kernel_rfl
theorem no_fence (s : Shared) : fenceModules? PW s = some s := by kernel_rfl
theorem no_imports : importedModules PW.main.body = [] := by kernel_rfl
theorem top_run (w : World) (os : OsState) : ∃ s : Shared, topRun treeTable PW w 11 ann0 (12 + (1 + (5600 + 2))) ⟨boot_heap w.params, #[], boot_drawn, boot_toks, os⟩ (topStub PW) = some s ∧
    obsA w.params s = true ∧ openSeen qV looseV [] XtV true s = openGood qV looseV ∧ HK.obs s = HK.val w := by
  obtain ⟨r, hr, e⟩ := main_run w os
  unfold runV at hr
  obtain ⟨f, t, c, p⟩ := r
  obtain ⟨rfl, rfl, rfl, h1, h2, h3⟩ : f = .next ∧ c = cB ∧ p = posL ∧ obsA w.params t.abs = true ∧ openSeen qV looseV [] XtV true t.abs = openGood qV looseV ∧ HK.obs t.abs = HK.val w :=
    ⟨congrArg (·.1) e, congrArg (·.2.1) e, congrArg (·.2.2.1) e, congrArg (·.2.2.2.1) e, congrArg (·.2.2.2.2.1) e, congrArg (·.2.2.2.2.2) e⟩
  refine ⟨t.abs, go_top (pre_run w os) (piece_block (block_run w os) ?_), h1, h2, h3⟩
  have k := piece_app (rest := []) (segRun_of hr) (piece_nil (fin_run (p := PW) w t.abs cB posL))
  rw [List.append_nil] at k
  exact k
noncomputable abbrev NV : Nat := 12 + (1 + (5600 + 2))
theorem topFrom_of {p : Program} {w : World} {N n₀ : Nat} {ann : Option Value} {s₀ s : Shared} (z1 : (s₀.heap.isNs mainGlobals && s₀.gens.size == 0) = true) (z2 : s₀.heap.objs.size = n₀) (z3 : s₀.heap.nsMap mainGlobals "__annotations__" = ann)
    (r : topRun treeTable p w n₀ ann N s₀ (topStub p) = some s) (ok : (staticsOk (importedModules p.main.body) s₀.heap s.heap && namesBound p s.heap && gensDone s && laidKept s₀.heap s.heap) = true) : topFrom treeTable p w N s₀ = some s := by
  subst z2; subst z3
  unfold topFrom
  rw [z1, r]
  show (match (staticsOk (importedModules p.main.body) s₀.heap s.heap && namesBound p s.heap && gensDone s && laidKept s₀.heap s.heap) with | true => some s | false => none) = some s
  rw [ok]
theorem openEnds_of {p : Program} {w : World} {N : Nat} {s₀ s : Shared} (a : fencedOpening treeTable p w N = some s₀) (b : topFrom treeTable p w N s₀ = some s) : openEnds treeTable p w N = some s := by
  unfold openEnds
  rw [a]
  exact b
theorem open_is (w : World) : ∃ os, fencedOpening treeTable PW w NV = some ⟨boot_heap w.params, #[], boot_drawn, boot_toks, os⟩ := by
  have o := boot_open (p := PW) (N := NV) opening_is rfl no_fence w
  generalize fencedOpening treeTable PW w NV = F at o ⊢
  obtain ⟨⟨h, gs, d, k, os⟩, rfl, e'⟩ := Option.map_eq_some_iff.mp o
  obtain ⟨rfl, rfl, rfl, rfl⟩ : h = boot_heap w.params ∧ gs = #[] ∧ d = boot_drawn ∧ k = boot_toks := by simpa using e'
  exact ⟨os, rfl⟩
theorem size1 (P : Params) : ((boot_heap P).isNs mainGlobals && (#[] : Array GenState).size == 0) = true := by kernel_rfl
theorem size2 (P : Params) : (boot_heap P).objs.size = 11 := by kernel_rfl
theorem size3 (P : Params) : (boot_heap P).nsMap mainGlobals "__annotations__" = ann0 := by kernel_rfl
theorem left_V : LeftO PW qV looseV XtV HK.obs HK.val NV := fun w => by
  obtain ⟨os, e⟩ := open_is w
  obtain ⟨s, r, a1, a2, a3⟩ := top_run w os
  have t := openEnds_of e (topFrom_of (size1 w.params) (size2 w.params) (size3 w.params) r (by rw [no_imports]; exact a1))
  rw [t, no_imports]
  exact congrArg some (Prod.ext a2 a3)
end
end Mine
namespace Mine
section
set_option maxRecDepth 100000
theorem and_t {a b : Bool} (h : a = true) (k : b = true) : (a && b) = true := by rw [h, k]; rfl
/- one evaluation for each look, each a declaration of its own: less memory at a time -/
set_option maxHeartbeats 0 in
theorem said : OpenLaw.wellSaid PySem.Challenge.rw_pq0955_01 = true := by
  rw [PySem.W.Fast.te9446332074065402090]
  delta PySem.W.Fast.tw9446332074065402090
  repeat' with_reducible refine and_t ?_ ?_
  all_goals try delta PySem.W.Fast.tw17960256430627541270
  all_goals repeat' with_reducible refine and_t ?_ ?_
  all_goals try delta PySem.W.Fast.tw2436336058641802641
  all_goals repeat' with_reducible refine and_t ?_ ?_
  all_goals try delta PySem.W.Fast.tw12908688711261696721
  all_goals repeat' with_reducible refine and_t ?_ ?_
  all_goals decide +kernel
set_option maxHeartbeats 0 in
theorem tables : PySem.Challenge.rw_pq0955_01.row.prog.tablesWhole = true := by
  unfold Program.tablesWhole TablesWhole.wProgram
  rw [PySem.W.Fast.te6116379765354995101]
  kernel_rfl
end
end Mine
namespace Mine
theorem room_d {dp a b : Nat} (h : dp + b < 1000) (i : a ≤ b) : dp + a < 1000 := Nat.lt_of_le_of_lt (Nat.add_le_add_left i dp) h
theorem room_u {un b : Nat} (h : un + b + 400 < 9900) {a : Nat} (i : a ≤ b) : un + a + 400 < 9900 := Nat.lt_of_le_of_lt (Nat.add_le_add_right (Nat.add_le_add_left i un) 400) h
theorem room_64 {un c : Nat} (h : un + c + 400 < 9900) : un + 64 < 9900 := Nat.lt_of_le_of_lt (by rw [Nat.add_assoc]; exact Nat.add_le_add_left (Nat.le_trans (show 64 ≤ 400 by decide) (Nat.le_add_left _ _)) un) h
theorem room_0 {un c : Nat} (h : un + c + 400 < 9900) : un < 9900 := Nat.lt_of_le_of_lt (by rw [Nat.add_assoc]; exact Nat.le_add_right _ _) h
theorem room_k {dp b : Nat} (h : dp + b < 1000) : dp < 1000 := Nat.lt_of_le_of_lt (Nat.le_add_right _ _) h
theorem nn1 {a : Int} (h : 0 ≤ a) : 0 ≤ a + 1 := Int.le_trans h (Int.le_add_of_nonneg_right (by decide))
/-! ### the contracts' form, and what the walks share -/
/-- a def's contract: what a call of it gives back, from any frame of a function -/
noncomputable def Ct (w : World) (p : Program) (loose : List Str) (mean : ExcName → Option Value) (mg mb : Str → Option Value) (f : Addr) (vs : List Value) (news : List (Addr × Obj)) (need : Nat) (R : Value → List (Addr × Obj) → Prop) : Prop :=
  ∀ (dp un : Nat) (gd : Option (List Code)) (cn : Str) (cs : Scope) (a : Addr) (ccd : Value) (cl : List (Str × Addr)) (outer : List Env) (A₀ : Around) (base h₀ : Heap) (L : Addr) (m : Str → Option Value) (s : Shared) (Q E : Value → Shared → Prop),
    Below A₀ base outer h₀ → Fr h₀ L s.heap m → (heapK w.params).In h₀ → News h₀ L s.heap news → Top p loose mean mg mb h₀ → cs.kind = .function → dp + need < 1000 → un + 8 * need + 400 < 9900 →
    (∀ r news' h' tk', R r news' → Fr h₀ L h' m → News h₀ L h' news' → Q r { s with heap := h', toks := tk' }) →
    wpAny (model (OpenRow.toRowW (OpenLaw.row PySem.Challenge.rw_pq0955_01)).prog w) (ktrTop dp un gd cn cs L a ccd cl outer) (call (.ref f) vs) Q E s
noncomputable abbrev tupO (vs : List Value) (n : Nat) : Obj := { cls := .type "tuple", data := .seq vs.toArray n }
theorem dat_ints {news : List (Addr × Obj)} {vs : List Value} {ns : List Int} (h : IntsAre vs ns) : DatAll news vs (ns.map Dat.int) := by
  induction h with
  | nil => exact .nil
  | cons n t _ ih => exact .cons (.int n t) ih
theorem ok_ints {ns : List Int} : ∀ d ∈ ns.map Dat.int, kqdOk 8 d = true := by
  intro d hd
  obtain ⟨x, _, rfl⟩ := List.mem_map.mp hd
  rfl
section
variable {prog : Program} {w : World} {A : Around} {E : Value → Shared → Prop} {s : Shared} {h₀ : Heap} {L a b : Addr} {news : List (Addr × Obj)} {xs : List Value} {ns : List Int} {ka kb : Nat} {Q : Value → Shared → Prop}
theorem eq_empty (N : News h₀ L s.heap news) (ma : (a, listOf xs.toArray ka) ∈ news) (hi : IntsAre xs ns) (mb : (b, listOf ([] : List Value).toArray kb) ∈ news) (hu : A.units + 64 < cLine)
    (h : Q (.bool (decide (ns = []))) s) : wpAny (model prog w) A (compareOp .Eq (.ref a) (.ref b)) Q E s := by
  refine kqd_eq N ma rfl rfl (dat_ints (news := news) hi) (fun _ h => h) mb rfl rfl (DatAll.nil (news := news)) (fun _ h => h) ok_ints (fun _ hd => nomatch hd) hu ?_
  have e : decide (ns.map Dat.int = []) = decide (ns = []) := by cases ns <;> simp
  have e' : ∀ (i : Decidable (ns.map Dat.int = [])), @decide _ i = decide (ns = []) := fun i => by rw [← e]; congr
  rw [e']
  exact h
end
theorem drop_ {h₀ h : Heap} {L : Addr} {news news' : List (Addr × Obj)} (N : News h₀ L h news') (hs : ∀ p ∈ news, p ∈ news') : News h₀ L h news := fun p hp => N p (hs p hp)

/-! ### a def's body, apart from its caller -/
noncomputable def mOf : List (Str × Value) → Str → Option Value
  | [], _ => none
  | (a, v) :: r, y => if y = a then some v else mOf r y
theorem mOf_eq (l : List (Str × Value)) : (fun y => l.lookup y) = mOf l := by
  funext y
  induction l with
  | nil => rfl
  | cons p r ih =>
    obtain ⟨a, v⟩ := p
    rw [List.lookup_cons, mOf]
    by_cases h : y = a
    · subst h; simp
    · rw [if_neg h]
      have : (y == a) = false := by simpa using h
      rw [this]
      exact ih
/-- the body's end: what comes back, with the ledger as it then is -/
inductive Back (g : Heap) (L : Addr) (s₀ : Shared) (R : Value → List (Addr × Obj) → Prop) (fl : Flow) (s' : Shared) : Prop
  | mk (h') (tk') (m') (news') (z0 : s' = { s₀ with heap := h', toks := tk' }) (z1 : Fr g L h' m') (z2 : News g L h' news') (z3 : R (match fl with | .ret v => v | _ => .none) news') : Back g L s₀ R fl s'
theorem Back.intro {g : Heap} {L : Addr} {s₀ : Shared} {R : Value → List (Addr × Obj) → Prop} {v : Value} {h' : Heap} {tk' : Nat} {m' : Str → Option Value} {news' news₁ : List (Addr × Obj)}
    (F : Fr g L h' m') (N : News g L h' news₁) (hs : ∀ p ∈ news', p ∈ news₁) (r : R v news') : Back g L s₀ R (.ret v) { s₀ with heap := h', toks := tk' } := ⟨h', tk', m', news', rfl, F, drop_ N hs, r⟩
section
variable {w : World} {p : Program} {loose : List Str} {mean : ExcName → Option Value} {mg mb : Str → Option Value} {f : Addr} {vs : List Value} {news : List (Addr × Obj)} {k : Nat} {R : Value → List (Addr × Obj) → Prop}
  {name qual : Str} {params : Arguments} {body : List Stmt} {scope : Scope} {pm cdv : Value}
theorem ct_of_body {binds : List (Str × Value)} (ho : (heapK w.params).lookup f = some ⟨.type "function", none, .func (fnOf name qual params body scope .none .none .none pm none cdv .none), #[]⟩) (hcd : codeIn (heapK w.params) cdv qual = true)
    (hbind : bindArgs (fnOf name qual params body scope .none .none .none pm none cdv .none) ⟨vs, []⟩ = pure binds) (hloc : ∀ y ∈ binds, scope.names.lookup y.1 = some .local)
    (h : ∀ (dp un : Nat) (gd : Option (List Code)) (outer : List Env) (A₀ : Around) (base g : Heap) (L : Addr) (s : Shared),
      Below A₀ base outer g → Fr g L s.heap (mOf binds.reverse) → (heapK w.params).In g → News g L s.heap news → Top p loose mean mg mb g → dp + k < 1000 → un + 8 * k + 400 < 9900 →
      wpAny (model (OpenRow.toRowW (OpenLaw.row PySem.Challenge.rw_pq0955_01)).prog w) (ktrTop dp un gd qual scope L f cdv [] outer) (execs body (envOf qual scope L f cdv)) (Back g L s R) (fun _ _ => False) s)
    (hco : scope.isCoroutine = false) (hgen : scope.isGenerator = false) (hk : scope.kind = .function) (hcell : ∀ x ∈ scope.names, x.2 ≠ .cell) : Ct w p loose mean mg mb f vs news (k + 1) R := by
  intro dp un gd cn cs a ccd cl outer A₀ base h₀ L m s Q E B F X N T hck hd hu hret
  refine wpAny_call (code_def B F X N T rfl rfl hck ho hcd (by show dp < 1000; omega) (BindsTo.of_eq hbind) hloc (fun g L' h₁ FG F' N' B' X' T' => ?_) hco hgen hk hcell)
  rw [mOf_eq] at F'
  refine wpAny_mono (h (dp + 1) (un + 3) gd (envX cn cs L a ccd cl :: outer) _ base g L' _ B' F' X' N' T' (by omega) (by omega)) (fun fl s' hb => ?_) fun _ _ x => x.elim
  obtain ⟨h', tk', m', news', rfl, F₁, N₁, r⟩ := hb
  exact ⟨L', m', news', F₁, N₁, fun F₂ N₂ => hret _ news' h' tk' r F₂ N₂⟩
theorem ct_of_bodyC {binds : List (Str × Value)} (ho : (heapK w.params).lookup f = some ⟨.type "function", none, .func (fnOf name qual params body scope .none .none .none pm none cdv .none), #[]⟩) (hcd : codeIn (heapK w.params) cdv qual = true)
    (hbind : bindArgs (fnOf name qual params body scope .none .none .none pm none cdv .none) ⟨vs, []⟩ = pure binds) (hkind : (binds.all fun y => scope.names.lookup y.1 == some .local || scope.names.lookup y.1 == some .cell) = true)
    (hnd : ((cellsFrom 0 scope.names []).map (·.1)).Nodup)
    (h : ∀ (dp un : Nat) (gd : Option (List Code)) (outer : List Env) (A₀ : Around) (base g : Heap) (L : Addr) (s : Shared) (cells : List (Addr × Obj)),
      Below A₀ base outer g → Fr g L s.heap (bindL (envOfC qual scope L f cdv).kindOf binds fun _ => none) → (heapK w.params).In g → News g L s.heap (cells ++ news) → Top p loose mean mg mb g →
      CellsAre (bindC (envOfC qual scope L f cdv).kindOf binds fun _ => none) (cellsFrom (L + 1) scope.names []) cells → (∀ q ∈ news, q.1 < L) → dp + k < 1000 → un + 8 * k + 400 < 9900 →
      wpAny (model (OpenRow.toRowW (OpenLaw.row PySem.Challenge.rw_pq0955_01)).prog w) (ktrTop dp un gd qual scope L f cdv (cellsFrom (L + 1) scope.names []) outer) (execs body (envOfC qual scope L f cdv)) (Back g L s R) (fun _ _ => False) s)
    (hco : scope.isCoroutine = false) (hgen : scope.isGenerator = false) (hk : scope.kind = .function) : Ct w p loose mean mg mb f vs news (k + 1) R := by
  intro dp un gd cn cs a ccd cl outer A₀ base h₀ L m s Q E B F X N T hck hd hu hret
  refine wpAny_call (code_defC B F X N T rfl rfl hck ho hcd (by show dp < 1000; omega) (BindsTo.of_eq hbind) hkind hnd (fun g L' h₁ tk cells FG F' N' Y B' X' T' l => ?_) hco hgen hk)
  refine wpAny_mono (h (dp + 1) (un + 3) gd (envX cn cs L a ccd cl :: outer) _ base g L' _ cells B' F' X' N' T' Y l (by omega) (by omega)) (fun fl s' hb => ?_) fun _ _ x => x.elim
  obtain ⟨h', tk', m', news', rfl, F₁, N₁, r⟩ := hb
  exact ⟨L', m', news', F₁, N₁, fun F₂ N₂ => hret _ news' h' tk' r F₂ N₂⟩
/-- a contract in use: the ledger handed to it may be any part of the ledger at hand -/
theorem ct_use {need : Nat} {dp un : Nat} {gd : Option (List Code)} {cn : Str} {cs : Scope} {a : Addr} {ccd : Value} {cl : List (Str × Addr)} {outer : List Env} {A₀ : Around} {base h₀ : Heap} {L : Addr} {m : Str → Option Value} {s : Shared} {Q E : Value → Shared → Prop} {all : List (Addr × Obj)}
    (C : Ct w p loose mean mg mb f vs news need R) (B : Below A₀ base outer h₀) (F : Fr h₀ L s.heap m) (X : (heapK w.params).In h₀) (N : News h₀ L s.heap all) (T : Top p loose mean mg mb h₀) (hs : ∀ q ∈ news, q ∈ all) (hck : cs.kind = .function)
    (hd : dp + need < 1000) (hu : un + 8 * need + 400 < 9900) (ret : ∀ r news' h' tk', R r news' → Fr h₀ L h' m → News h₀ L h' news' → Q r { s with heap := h', toks := tk' }) :
    wpAny (model (OpenRow.toRowW (OpenLaw.row PySem.Challenge.rw_pq0955_01)).prog w) (ktrTop dp un gd cn cs L a ccd cl outer) (call (.ref f) vs) Q E s :=
  C _ _ _ _ _ _ _ _ _ _ _ _ _ _ _ _ _ B F X (drop_ N hs) T hck hd hu ret
/-- the same, what comes back taken apart on the way -/
theorem ct_useU {Kt : (Value → List (Addr × Obj) → Prop) → Prop} {need : Nat} {dp un : Nat} {gd : Option (List Code)} {cn : Str} {cs : Scope} {a : Addr} {ccd : Value} {cl : List (Str × Addr)} {outer : List Env} {A₀ : Around} {base h₀ : Heap} {L : Addr} {m : Str → Option Value} {s : Shared} {Q E : Value → Shared → Prop} {all : List (Addr × Obj)}
    (U : ∀ P, Kt P → ∀ r n, R r n → P r n) (C : Ct w p loose mean mg mb f vs news need R) (ret : ∀ h' tk', Fr h₀ L h' m → Kt (fun r n => News h₀ L h' n → Q r { s with heap := h', toks := tk' }))
    (hs : ∀ q ∈ news, q ∈ all := by exact fun _ h => h) (B : Below A₀ base outer h₀ := by assumption) (F : Fr h₀ L s.heap m := by assumption) (X : (heapK w.params).In h₀ := by assumption) (N : News h₀ L s.heap all := by k_asm) (T : Top p loose mean mg mb h₀ := by assumption)
    (hck : cs.kind = .function := by exact rfl) (hd : dp + need < 1000 := by k_room) (hu : un + 8 * need + 400 < 9900 := by ke_room) :
    wpAny (model (OpenRow.toRowW (OpenLaw.row PySem.Challenge.rw_pq0955_01)).prog w) (ktrTop dp un gd cn cs L a ccd cl outer) (call (.ref f) vs) Q E s :=
  C _ _ _ _ _ _ _ _ _ _ _ _ _ _ _ _ _ B F X (drop_ N hs) T hck hd hu fun r n h' tk' hR hF hN => U _ (ret h' tk' hF) r n hR hN
end
noncomputable abbrev PR := Value → List (Addr × Obj) → Prop
theorem u_eq {v : Value} {X : List (Addr × Obj)} (P : PR) (h : P v X) (r : Value) (n : List (Addr × Obj)) (e : r = v ∧ n = X) : P r n := e.1 ▸ e.2 ▸ h
theorem u_fname {x : Str} {X : List (Addr × Obj)} (P : PR) (h : ∀ u, P (.str x u) X) (r : Value) (n : List (Addr × Obj)) (e : (∃ u, r = .str x u) ∧ n = X) : P r n := by
  obtain ⟨⟨u, rfl⟩, rfl⟩ := e
  exact h u
theorem u_ctx {x y : Int} {news : List (Addr × Obj)} (P : PR) (h : ∀ D u1 u2 k, (∀ q ∈ news, q.1 < D) → P (.ref D) ((D, tupO [.int x u1, .int y u2] k) :: news)) (r : Value) (n : List (Addr × Obj))
    (e : ∃ D u1 u2 k, r = .ref D ∧ (∀ q ∈ news, q.1 < D) ∧ n = (D, tupO [.int x u1, .int y u2] k) :: news) : P r n := by
  obtain ⟨D, u1, u2, k, rfl, a, rfl⟩ := e
  exact h D u1 u2 k a
theorem u_row {Z : List Value → Prop} {news : List (Addr × Obj)} (P : PR) (h : ∀ D vs k, Z vs → P (.ref D) ((D, listOf vs.toArray k) :: news)) (r : Value) (n : List (Addr × Obj)) (e : ∃ (D : Addr) (vs : List Value) (k : Nat), r = .ref D ∧ n = (D, listOf vs.toArray k) :: news ∧ Z vs) : P r n := by
  obtain ⟨D, vs, k, rfl, rfl, a⟩ := e
  exact h D vs k a

theorem place_ok {turn : Int} {cs : List Int} (h : ¬ cs = []) (_ht : 0 ≤ turn) : 0 ≤ (5 * turn + 2).fmod (if (cs.length : Int) > 1 then (cs.length : Int) else 1) ∧ (5 * turn + 2).fmod (if (cs.length : Int) > 1 then (cs.length : Int) else 1) < cs.length := by
  have hl : 0 < (cs.length : Int) := by
    cases cs with
    | nil => exact absurd rfl h
    | cons a r => simp only [List.length_cons]; omega
  split
  · exact ⟨Int.fmod_nonneg_of_pos _ (by omega), Int.fmod_lt_of_pos _ (by omega)⟩
  · exact ⟨Int.fmod_nonneg_of_pos _ (by omega), Int.lt_of_lt_of_le (Int.fmod_lt_of_pos _ (by omega)) (by omega)⟩

/-! ### the law's store: a list of the cells' list and the turn -/
inductive Src (sa ca : Addr) (turn : Int) (S : List (Addr × Obj)) : Prop
  | mk (t1 : Tok) (n1 n2 : Nat) (cvs : List Value) (cs : List Int) (z0 : S = [(sa, listOf #[.ref ca, .int turn t1] n1), (ca, listOf cvs.toArray n2)]) (z1 : IntsAre cvs cs) (z2 : cs.length ≤ 40) : Src sa ca turn S
/-- no entry of the rest lies at the store's addresses -/
noncomputable def Off2 (sa ca : Addr) (l : List (Addr × Obj)) : Prop := ∀ q ∈ l, (@Ne Nat q.1 sa) ∧ @Ne Nat q.1 ca
/-- what is new lies above what stood -/
noncomputable def Above (l tl : List (Addr × Obj)) : Prop := ∀ q ∈ tl, ∀ r ∈ l, @LT.lt Nat _ r.1 q.1
inductive TakenR (sa ca : Addr) (turn limit : Int) (rest : List (Addr × Obj)) (r : Value) (news' : List (Addr × Obj)) : Prop
  | mk (d : Int) (u : Tok) (S' : List (Addr × Obj)) (z0 : r = .int d u) (z1 : 0 ≤ d) (z2 : d < limit) (z3 : news' = S' ++ rest) (z4 : Src sa ca (turn + 1) S') : TakenR sa ca turn limit rest r news'
theorem taken_end {g : Heap} {L : Addr} {s : Shared} {sa ca : Addr} {turn limit : Int} {rest : List (Addr × Obj)} {d : Int} {u t1 : Tok} {n1 n2 : Nat} {cvs : List Value} {cs : List Int} {h' : Heap} {tk' : Nat} {m' : Str → Option Value} {news₁ : List (Addr × Obj)}
    (F : Fr g L h' m') (N : News g L h' news₁) (hs : ∀ p ∈ (sa, listOf #[.ref ca, .int (turn + 1) t1] n1) :: (ca, listOf cvs.toArray n2) :: rest, p ∈ news₁) (hi : IntsAre cvs cs) (hlen : cs.length ≤ 40) (h0 : 0 ≤ d) (h1 : d < limit) :
    Back g L s (TakenR sa ca turn limit rest) (.ret (.int d u)) { s with heap := h', toks := tk' } :=
  Back.intro F N (news' := (sa, listOf #[.ref ca, .int (turn + 1) t1] n1) :: (ca, listOf cvs.toArray n2) :: rest) hs ⟨d, u, [(sa, listOf #[.ref ca, .int (turn + 1) t1] n1), (ca, listOf cvs.toArray n2)], rfl, h0, h1, rfl, t1, n1, n2, cvs, cs, rfl, hi, hlen⟩
theorem u_taken {sa ca : Addr} {turn limit : Int} {rest : List (Addr × Obj)} (P : PR) (h : ∀ d u S', 0 ≤ d → d < limit → Src sa ca (turn + 1) S' → P (.int d u) (S' ++ rest)) (r : Value) (n : List (Addr × Obj)) (e : TakenR sa ca turn limit rest r n) : P r n := by
  obtain ⟨d, u, S', rfl, h0, h1, rfl, hS⟩ := e
  exact h d u S' h0 h1 hS

/-! ### the data: pairs, trees, letters, as Dat -/
noncomputable abbrev pairD (q : Int × Int) : Dat := .tuple [.int q.1, .int q.2]
inductive T where
  | all
  | flag (x : Str)
  | seq (ps : List (Int × Int))
  | uid (ps : List (Int × Int))
  | nt (a : T)
  | an (a b : T)
  | or (a b : T)
noncomputable def T.dat : T → Dat
  | .all => .tuple [.str (Str.ofString "all")]
  | .flag x => .tuple [.str (Str.ofString "flag"), .str x]
  | .seq ps => .tuple [.str (Str.ofString "seq"), .tuple (ps.map pairD)]
  | .uid ps => .tuple [.str (Str.ofString "uid"), .tuple (ps.map pairD)]
  | .nt a => .tuple [.str (Str.ofString "not"), a.dat]
  | .an a b => .tuple [.str (Str.ofString "and"), a.dat, b.dat]
  | .or a b => .tuple [.str (Str.ofString "or"), a.dat, b.dat]
noncomputable def T.size : T → Nat
  | .nt a => a.size + 1
  | .an a b => a.size + b.size + 1
  | .or a b => a.size + b.size + 1
  | _ => 0
/-! what the two readings say -/
noncomputable def endOf (e top : Int) : Int := if e = 0 then top else e
noncomputable def progPair (q : Int × Int) (n top : Int) : Bool :=
  !(decide (top = 0) && (decide (q.1 = 0) || decide (q.2 = 0))) && (decide (min (endOf q.1 top) (endOf q.2 top) ≤ n) && decide (n ≤ max (endOf q.1 top) (endOf q.2 top)))
noncomputable def progHas (ps : List (Int × Int)) (n top : Int) : Bool := ps.any fun q => progPair q n top
noncomputable def endL (e top : Int) : Int := if e > 0 then e else top
noncomputable def lawPair (q : Int × Int) (n top : Int) : Bool :=
  decide (min (endL q.1 top) (endL q.2 top) > 0) && (decide (min (endL q.1 top) (endL q.2 top) ≤ n) && decide (n ≤ max (endL q.1 top) (endL q.2 top)))
noncomputable def lawHas (ps : List (Int × Int)) (n top : Int) : Bool := ps.any fun q => lawPair q n top
theorem pair_agree {q : Int × Int} {n top : Int} (h1 : 0 ≤ q.1) (h2 : 0 ≤ q.2) (ht : 0 ≤ top) : progPair q n top = lawPair q n top := by
  have e1 : endOf q.1 top = endL q.1 top := by unfold endOf endL; split <;> split <;> omega
  have e2 : endOf q.2 top = endL q.2 top := by unfold endOf endL; split <;> split <;> omega
  unfold progPair lawPair
  rw [e1, e2]
  by_cases hz : top = 0 ∧ (q.1 = 0 ∨ q.2 = 0)
  · have h3 : min (endL q.1 top) (endL q.2 top) = 0 := by
      obtain ⟨rfl, h⟩ := hz
      unfold endL
      rcases h with h | h <;> rw [h] <;> simp <;> split <;> omega
    obtain ⟨h4, h5⟩ := hz
    rw [h3]
    rcases h5 with h5 | h5 <;> simp [h4, h5]
  · have h3 : min (endL q.1 top) (endL q.2 top) > 0 := by
      unfold endL
      have : ¬ (top = 0 ∧ (q.1 = 0 ∨ q.2 = 0)) := hz
      rcases Int.lt_or_eq_of_le ht with h | h
      · split <;> split <;> omega
      · split <;> split <;> omega
    rw [decide_eq_true h3, Bool.true_and]
    have : (decide (top = 0) && (decide (q.1 = 0) || decide (q.2 = 0))) = false := by
      rw [Bool.eq_false_iff]
      intro h
      simp only [Bool.and_eq_true, Bool.or_eq_true, decide_eq_true_eq] at h
      exact hz h
    rw [this]
    rfl
inductive TupIs (news : List (Addr × Obj)) (v : Value) (ds : List Dat) : Prop
  | mk (a : Addr) (vs : List Value) (n : Nat) (z0 : v = .ref a) (z1 : (a, tupO vs n) ∈ news) (z2 : DatAll news vs ds) : TupIs news v ds
inductive ConsIs (news : List (Addr × Obj)) (vs : List Value) (d : Dat) (ds : List Dat) : Prop
  | mk (v : Value) (r : List Value) (z0 : vs = v :: r) (z1 : DatIn news v d) (z2 : DatAll news r ds) : ConsIs news vs d ds
inductive PairAt (news : List (Addr × Obj)) (v : Value) (q : Int × Int) : Prop
  | mk (a : Addr) (t1 t2 : Tok) (n : Nat) (z0 : v = .ref a) (z1 : (a, tupO [.int q.1 t1, .int q.2 t2] n) ∈ news) : PairAt news v q
section
variable {news : List (Addr × Obj)} {v : Value}
theorem dat_int {x : Int} (h : DatIn news v (.int x)) : ∃ t, v = .int x t := by cases h; exact ⟨_, rfl⟩
theorem dat_str {x : Str} (h : DatIn news v (.str x)) : ∃ t, v = .str x t := by cases h; exact ⟨_, rfl⟩
theorem dat_tup {ds : List Dat} (h : DatIn news v (.tuple ds)) : TupIs news v ds := by
  cases h with
  | tuple hm hr => exact ⟨_, _, _, rfl, hm, hr⟩
theorem dat_nil {vs : List Value} (h : DatAll news vs []) : vs = [] := by cases h; rfl
theorem dat_cons {vs : List Value} {d : Dat} {ds : List Dat} (h : DatAll news vs (d :: ds)) : ConsIs news vs d ds := by
  cases h with
  | cons h r => exact ⟨_, _, rfl, h, r⟩
theorem dat_one {d : Dat} (h : DatIn news v (.tuple [d])) : ∃ a x n, v = .ref a ∧ (a, tupO [x] n) ∈ news ∧ DatIn news x d := by
  obtain ⟨a, vs, n, rfl, hm, h0⟩ := dat_tup h
  obtain ⟨x, r1, rfl, hx, h1⟩ := dat_cons h0
  obtain rfl := dat_nil h1
  exact ⟨_, _, _, rfl, hm, hx⟩
theorem dat_two {d e : Dat} (h : DatIn news v (.tuple [d, e])) : ∃ a x y n, v = .ref a ∧ (a, tupO [x, y] n) ∈ news ∧ DatIn news x d ∧ DatIn news y e := by
  obtain ⟨a, vs, n, rfl, hm, h0⟩ := dat_tup h
  obtain ⟨x, r1, rfl, hx, h1⟩ := dat_cons h0
  obtain ⟨y, r2, rfl, hy, h2⟩ := dat_cons h1
  obtain rfl := dat_nil h2
  exact ⟨_, _, _, _, rfl, hm, hx, hy⟩
theorem dat_three {d e f : Dat} (h : DatIn news v (.tuple [d, e, f])) : ∃ a x y z n, v = .ref a ∧ (a, tupO [x, y, z] n) ∈ news ∧ DatIn news x d ∧ DatIn news y e ∧ DatIn news z f := by
  obtain ⟨a, vs, n, rfl, hm, h0⟩ := dat_tup h
  obtain ⟨x, r1, rfl, hx, h1⟩ := dat_cons h0
  obtain ⟨y, r2, rfl, hy, h2⟩ := dat_cons h1
  obtain ⟨z, r3, rfl, hz, h3⟩ := dat_cons h2
  obtain rfl := dat_nil h3
  exact ⟨_, _, _, _, _, rfl, hm, hx, hy, hz⟩
theorem dat_pair {q : Int × Int} (h : DatIn news v (pairD q)) : PairAt news v q := by
  obtain ⟨a, x, y, n, rfl, hm, hx, hy⟩ := dat_two h
  obtain ⟨t1, rfl⟩ := dat_int hx
  obtain ⟨t2, rfl⟩ := dat_int hy
  exact ⟨_, _, _, _, rfl, hm⟩
end

/-! ### a loop by what holds between its turns -/
section
variable {prog : Program} {w : World} {A : Around} {E : Value → Shared → Prop} {s : Shared} {env : Env} {h₀ : Heap} {target : Expr} {body : List Stmt} {Q : Flow → Shared → Prop}
theorem items_inv {I : Addr} {kind : String} {keep : List (Addr × Obj)} (P : List Itm → (Str → Option Value) → List (Addr × Obj) → Prop)
    (zero : ∀ m news, P [] m news → ∀ h tk, Fr h₀ env.locals h m → News h₀ env.locals h news → Q .next { s with heap := h, toks := tk })
    (turn : ∀ a r m news, P (a :: r) m news → ∀ v h tk o, o.cls = .type kind → a.Is v h → Fr h₀ env.locals h m → News h₀ env.locals h ((I, o) :: news) →
      wpAny (model prog w) A (assign target env v) (fun _ s₂ => wpAny (model prog w) A (execs body env) (UnrPostW h₀ env.locals { s with heap := h, toks := tk } [(I, o)] (fun m' n' => SubL keep n' ∧ P r m' n') Q) E s₂) E { s with heap := h, toks := tk }) :
    ∀ xs m news, P xs m news → ItemsRest prog w A E h₀ env target body Q s [(I, kind)] keep xs m news
  | [], m, news, p => fun h tk F N => zero m news p h tk F N
  | a :: r, m, news, p => fun v h tk ha F o hc N => by
    refine wpAny_mono (turn a r m news p v h tk o hc ha F N) (fun _ s₂ h₂ => wpAny_mono h₂ (fun f s₃ q => ?_) fun _ _ x => x) fun _ _ x => x
    have up : UnrEndW h₀ env.locals { s with heap := h, toks := tk } [(I, o)] (fun m' n' => SubL keep n' ∧ P r m' n') s₃ → UnrEndW h₀ env.locals { s with heap := h, toks := tk } [(I, o)] (fun m' n' => SubL keep n' ∧ ItemsRest prog w A E h₀ env target body Q s [(I, kind)] keep r m' n') s₃ := by
      rintro ⟨h', tk', m', news', e, F', N', off, hk, hp⟩
      exact ⟨h', tk', m', news', e, F', N', off, hk, items_inv P zero turn r m' news' hp⟩
    cases f with
    | ret v => exact q
    | brk => exact q
    | next => exact up q
    | cont => exact up q
/-- a turn's end that leaves the ledger as it was -/
theorem turn_end {I L : Addr} {o : Obj} {keep news news₁ : List (Addr × Obj)} {P : (Str → Option Value) → List (Addr × Obj) → Prop} {s₁ : Shared} {h' : Heap} {tk : Nat} {m' m₁ : Str → Option Value} {f : Flow} (hf : f = .next ∨ f = .cont)
    (F : Fr h₀ L h' m') (N : News h₀ L h' news₁) (hI : (I, o) ∈ news₁) (hs : ∀ q ∈ news, q ∈ news₁) (off : ∀ q ∈ news, q.1 < I) (hk : SubL keep news) (em : m' = m₁) (p : P m₁ news) :
    UnrPostW h₀ L s₁ [(I, o)] (fun m' n' => SubL keep n' ∧ P m' n') Q f { s₁ with heap := h', toks := tk } := by
  have e : UnrEndW h₀ L s₁ [(I, o)] (fun m' n' => SubL keep n' ∧ P m' n') { s₁ with heap := h', toks := tk } := by
    refine ⟨h', tk, m', news, rfl, F, fun q hq => ?_, fun q hq r hr => ?_, hk, em ▸ p⟩
    · rcases List.mem_cons.mp hq with rfl | hq
      · exact N _ hI
      · exact N _ (hs _ hq)
    · rw [List.mem_singleton.mp hr]
      exact Nat.ne_of_lt (off q hq)
  rcases hf with rfl | rfl <;> exact e
end

noncomputable def EndsR (q : Int × Int) (gr : Int) (news : List (Addr × Obj)) (r : Value) (news' : List (Addr × Obj)) : Prop :=
  ((gr = 0 ∧ (q.1 = 0 ∨ q.2 = 0)) ∧ r = .none ∧ news' = news) ∨
  (¬ (gr = 0 ∧ (q.1 = 0 ∨ q.2 = 0)) ∧ ∃ (D : Addr) (t1 t2 : Tok) (n : Nat), r = .ref D ∧ news' = (D, tupO [.int (min (endOf q.1 gr) (endOf q.2 gr)) t1, .int (max (endOf q.1 gr) (endOf q.2 gr)) t2] n) :: news)
theorem u_ends {q : Int × Int} {gr : Int} {news : List (Addr × Obj)} (P : PR)
    (h : ((gr = 0 ∧ (q.1 = 0 ∨ q.2 = 0)) → P .none news) ∧ (¬ (gr = 0 ∧ (q.1 = 0 ∨ q.2 = 0)) → ∀ D t1 t2 n, P (.ref D) ((D, tupO [.int (min (endOf q.1 gr) (endOf q.2 gr)) t1, .int (max (endOf q.1 gr) (endOf q.2 gr)) t2] n) :: news))) (r : Value) (n : List (Addr × Obj)) (e : EndsR q gr news r n) : P r n := by
  obtain (⟨z, rfl, rfl⟩ | ⟨z, D, t1, t2, n, rfl, rfl⟩) := e
  · exact h.1 z
  · exact h.2 z D t1 t2 n
section
variable {g : Heap} {L D : Addr} {s : Shared} {q : Int × Int} {gr x y : Int} {t1 t2 : Tok} {n : Nat} {news news₁ : List (Addr × Obj)} {h' : Heap} {tk' : Nat} {m' : Str → Option Value}
theorem ends_none (F : Fr g L h' m') (N : News g L h' news₁) (hs : ∀ p ∈ news, p ∈ news₁) (h : gr = 0 ∧ (q.1 = 0 ∨ q.2 = 0)) : Back g L s (EndsR q gr news) (.ret .none) { s with heap := h', toks := tk' } :=
  Back.intro F N hs (.inl ⟨h, rfl, rfl⟩)
theorem endOf_pos (h : x = 0) : endOf x gr = gr := if_pos h
theorem endOf_neg (h : x ≠ 0) : endOf x gr = x := if_neg h
theorem ends_some (F : Fr g L h' m') (N : News g L h' news₁) (hs : ∀ p ∈ (D, tupO [.int x t1, .int y t2] n) :: news, p ∈ news₁) (h : ¬ (gr = 0 ∧ (q.1 = 0 ∨ q.2 = 0)))
    (hx : min (endOf q.1 gr) (endOf q.2 gr) = x ∧ max (endOf q.1 gr) (endOf q.2 gr) = y) : Back g L s (EndsR q gr news) (.ret (.ref D)) { s with heap := h', toks := tk' } := by
  obtain ⟨hx, hy⟩ := hx
  subst hx; subst hy
  exact Back.intro F N hs (.inr ⟨h, D, t1, t2, n, rfl, rfl⟩)
theorem ends_two {a b : Int} (e1 : endOf a gr = x) (e2 : endOf b gr = y) : min (endOf a gr) (endOf b gr) = (if y < x then y else x) ∧ max (endOf a gr) (endOf b gr) = (if x < y then y else x) := by
  rw [e1, e2]
  constructor <;> split <;> omega
theorem ends_same {a b : Int} (e1 : endOf a gr = x) (e2 : endOf b gr = x) : min (endOf a gr) (endOf b gr) = x ∧ max (endOf a gr) (endOf b gr) = x := by
  rw [e1, e2]
  constructor <;> omega
end

/-! ### a frame's map known at some names alone -/
noncomputable def Keep : List (Str × Value) → (Str → Option Value) → Prop
  | [], _ => True
  | (a, v) :: r, m => m a = some v ∧ Keep r m
noncomputable def mOn : List (Str × Value) → (Str → Option Value) → Str → Option Value
  | [], m, y => m y
  | (a, v) :: r, m, y => if y = a then some v else mOn r m y
theorem keep_on : ∀ {l : List (Str × Value)} {m : Str → Option Value}, Keep l m → (fun y => mOn l m y) = m
  | [], m, _ => rfl
  | (a, v) :: r, m, h => by
    funext y
    show (if y = a then some v else mOn r m y) = m y
    by_cases e : y = a
    · rw [if_pos e, e, h.1]
    · rw [if_neg e]
      exact congrFun (keep_on h.2) y
theorem fr_on {h₀ h : Heap} {L : Addr} {m : Str → Option Value} {l : List (Str × Value)} (F : Fr h₀ L h m) (k : Keep l m) : Fr h₀ L h (fun y => mOn l m y) := (keep_on k).symm ▸ F
section
variable {prog : Program} {w : World} {A : Around} {E : Value → Shared → Prop} {s : Shared} {env : Env} {h₀ : Heap} {target : Expr} {body : List Stmt} {Q : Flow → Shared → Prop}
/-- a turn's end: the ledger and the names that the loop keeps -/
theorem turn_keep {I L : Addr} {o : Obj} {keep news news₁ : List (Addr × Obj)} {P : (Str → Option Value) → List (Addr × Obj) → Prop} {s₁ : Shared} {h' : Heap} {tk : Nat} {m' : Str → Option Value}
    (F : Fr h₀ L h' m') (N : News h₀ L h' news₁) (hI : (I, o) ∈ news₁) (hs : ∀ q ∈ news, q ∈ news₁) (off : ∀ q ∈ news, q.1 ≠ I) (hk : SubL keep news) (p : P m' news) :
    UnrEndW h₀ L s₁ [(I, o)] (fun m' n' => SubL keep n' ∧ P m' n') { s₁ with heap := h', toks := tk } := by
  refine ⟨h', tk, m', news, rfl, F, fun q hq => ?_, fun q hq r hr => ?_, hk, p⟩
  · rcases List.mem_cons.mp hq with rfl | hq
    · exact N _ hI
    · exact N _ (hs _ hq)
  · rw [List.mem_singleton.mp hr]
    exact off q hq
end

section
variable {prog : Program} {w : World} {A : Around} {E : Value → Shared → Prop} {s : Shared} {env : Env} {h₀ : Heap} {target : Expr} {body : List Stmt} {Q : Flow → Shared → Prop}
/-- a loop that leaves the ledger as it was: what it keeps of its frame, what holds of the items that are to come -/
theorem items_keep {I : Addr} {kind : String} {keep news : List (Addr × Obj)} (l : List (Str × Value)) (D : List Value → Prop) (hk : SubL keep news)
    (zero : ∀ m h tk, D [] → Fr h₀ env.locals h (fun y => mOn l m y) → News h₀ env.locals h news → Q .next { s with heap := h, toks := tk })
    (turn : ∀ v r m h tk o, D (v :: r) → o.cls = .type kind → Fr h₀ env.locals h (fun y => mOn l m y) → News h₀ env.locals h ((I, o) :: news) →
      wpAny (model prog w) A (assign target env v) (fun _ s₂ => wpAny (model prog w) A (execs body env) (UnrPostW h₀ env.locals { s with heap := h, toks := tk } [(I, o)] (fun m' n' => SubL keep n' ∧ Keep l m' ∧ n' = news ∧ D r) Q) E s₂) E { s with heap := h, toks := tk })
    {vs : List Value} {m : Str → Option Value} (hm : Keep l m) (hD : D vs) : ItemsRest prog w A E h₀ env target body Q s [(I, kind)] keep (vs.map .val) m news := by
  refine items_inv (I := I) (kind := kind) (keep := keep) (fun xs m n => ∃ us, xs = us.map Itm.val ∧ Keep l m ∧ n = news ∧ D us) (fun m n p h tk F N => ?_) (fun a r m n p v h tk o hc ha F N => ?_) _ _ _ ⟨vs, rfl, hm, rfl, hD⟩
  · obtain ⟨us, e, k, rfl, d⟩ := p
    have : us = [] := by cases us with | nil => rfl | cons x y => cases e
    subst this
    exact zero m h tk d (fr_on F k) N
  · obtain ⟨us, e, k, rfl, d⟩ := p
    cases us with
    | nil => cases e
    | cons x us =>
      obtain ⟨rfl, rfl⟩ := List.cons.inj e
      have e' : v = x := ha
      subst e'
      refine wpAny_mono (turn v us m h tk o d hc (fr_on F k) N) (fun _ s₂ h₂ => wpAny_mono h₂ (fun f s₃ q => ?_) fun _ _ x => x) fun _ _ x => x
      have up : UnrEndW h₀ env.locals { s with heap := h, toks := tk } [(I, o)] (fun m' n' => SubL keep n' ∧ Keep l m' ∧ n' = n ∧ D us) s₃ → UnrEndW h₀ env.locals { s with heap := h, toks := tk } [(I, o)] (fun m' n' => SubL keep n' ∧ ∃ us', us.map Itm.val = us'.map Itm.val ∧ Keep l m' ∧ n' = n ∧ D us') s₃ := by
        rintro ⟨h', tk', m', news', e, F', N', off, hk, k, en, d'⟩
        exact ⟨h', tk', m', news', e, F', N', off, hk, us, rfl, k, en, d'⟩
      cases f with
      | ret v => exact q
      | brk => exact q
      | next => exact up q
      | cont => exact up q
theorem tup_keep {ax : Addr} {vs : List Value} {n : Nat} {m₀ : Str → Option Value} {news : List (Addr × Obj)} (l : List (Str × Value)) (D : List Value → Prop)
    (hh : A.handled = none) (F : Fr h₀ env.locals s.heap m₀) (N : News h₀ env.locals s.heap news) (ha : (ax, tupO vs n) ∈ news) (hm : Keep l m₀) (hD : D vs)
    (zero : ∀ m h tk, D [] → Fr h₀ env.locals h (fun y => mOn l m y) → News h₀ env.locals h news → Q .next { s with heap := h, toks := tk })
    (turn : ∀ I v r m h tk o, (∀ q ∈ news, q.1 < I) → D (v :: r) → o.cls = .type "tuple_iterator" → Fr h₀ env.locals h (fun y => mOn l m y) → News h₀ env.locals h ((I, o) :: news) →
      wpAny (model prog w) A (assign target env v) (fun _ s₂ => wpAny (model prog w) A (execs body env) (UnrPostW h₀ env.locals { s with heap := h, toks := tk } [(I, o)] (fun m' n' => SubL [(ax, tupO vs n)] n' ∧ Keep l m' ∧ n' = news ∧ D r) Q) E s₂) E { s with heap := h, toks := tk }) :
    wpAny (model prog w) A (pyIter (.ref ax)) (fun it s₂ => TurnsAt prog w A h₀ env target body Q E it s₂) E s :=
  iter_tupTurns hh F N ha rfl rfl fun I hI => items_keep l D (show SubL [_] _ from And.intro ha True.intro) zero (fun v r m h tk o d hc => turn I v r m h tk o hI d hc) hm hD
theorem list_keep {ax : Addr} {vs : List Value} {n : Nat} {m₀ : Str → Option Value} {news : List (Addr × Obj)} (l : List (Str × Value)) (D : List Value → Prop)
    (hh : A.handled = none) (F : Fr h₀ env.locals s.heap m₀) (N : News h₀ env.locals s.heap news) (ha : (ax, listOf vs.toArray n) ∈ news) (hm : Keep l m₀) (hD : D vs)
    (zero : ∀ m h tk, D [] → Fr h₀ env.locals h (fun y => mOn l m y) → News h₀ env.locals h news → Q .next { s with heap := h, toks := tk })
    (turn : ∀ I v r m h tk o, (∀ q ∈ news, q.1 < I) → D (v :: r) → o.cls = .type "list_iterator" → Fr h₀ env.locals h (fun y => mOn l m y) → News h₀ env.locals h ((I, o) :: news) →
      wpAny (model prog w) A (assign target env v) (fun _ s₂ => wpAny (model prog w) A (execs body env) (UnrPostW h₀ env.locals { s with heap := h, toks := tk } [(I, o)] (fun m' n' => SubL [(ax, listOf vs.toArray n)] n' ∧ Keep l m' ∧ n' = news ∧ D r) Q) E s₂) E { s with heap := h, toks := tk }) :
    wpAny (model prog w) A (pyIter (.ref ax)) (fun it s₂ => TurnsAt prog w A h₀ env target body Q E it s₂) E s :=
  iter_listTurns hh F N ha rfl rfl fun I hI => items_keep l D (show SubL [_] _ from And.intro ha True.intro) zero (fun v r m h tk o d hc => turn I v r m h tk o hI d hc) hm hD
/-- a turn's end under items_keep -/
theorem turn_fix {I L : Addr} {o : Obj} {keep news news₁ : List (Addr × Obj)} {l : List (Str × Value)} {D : Prop} {s₁ : Shared} {h' : Heap} {tk : Nat} {m' : Str → Option Value}
    (F : Fr h₀ L h' m') (N : News h₀ L h' news₁) (hI : (I, o) ∈ news₁) (hs : ∀ q ∈ news, q ∈ news₁) (off : ∀ q ∈ news, q.1 < I) (hk : ∀ q ∈ keep, q ∈ news) (km : Keep l m') (d : D) :
    UnrEndW h₀ L s₁ [(I, o)] (fun m' n' => SubL keep n' ∧ Keep l m' ∧ n' = news ∧ D) { s₁ with heap := h', toks := tk } := by
  refine ⟨h', tk, m', news, rfl, F, fun q hq => ?_, fun q hq r hr => ?_, ?_, km, rfl, d⟩
  · rcases List.mem_cons.mp hq with rfl | hq
    · exact N _ hI
    · exact N _ (hs _ hq)
  · rw [List.mem_singleton.mp hr]
    exact Nat.ne_of_lt (off q hq)
  · clear off hs hI N F d km
    induction keep with
    | nil => trivial
    | cons a r ih => exact ⟨hk a (List.mem_cons_self ..), ih fun q hq => hk q (List.mem_cons_of_mem _ hq)⟩
end

section
variable {prog : Program} {w : World} {A : Around} {E : Value → Shared → Prop} {s : Shared} {env : Env} {h₀ : Heap} {x : Str} {body : List Stmt} {Q : Flow → Shared → Prop}
theorem str_rest {I : Addr} {news : List (Addr × Obj)} (l : List (Str × Value)) (D : List Str → Prop)
    (zero : ∀ m h tk, D [] → Fr h₀ env.locals h (fun y => mOn l m y) → News h₀ env.locals h news → Q .next { s with heap := h, toks := tk })
    (turn : ∀ c r m h tk o u, D (c :: r) → Fr h₀ env.locals h (fun y => if y = x then some (.str c u) else mOn l m y) → News h₀ env.locals h ((I, o) :: news) →
      wpAny (model prog w) A (execs body env) (UnrPost h₀ env.locals { s with heap := h, toks := tk } I o (fun m' n' => Keep l m' ∧ n' = news ∧ D r) Q) E { s with heap := h, toks := tk }) :
    ∀ (xs : List Str) (m : Str → Option Value), Keep l m → D xs → StrRest prog w A E h₀ env x body Q s I xs m news
  | [], m, k, d => fun h tk F N => zero m h tk d (fr_on F k) N
  | c :: r, m, k, d => fun u it h tk F N => by
    refine wpAny_mono (turn c r m h tk it u d ?_ N) (fun f s₃ q => ?_) fun _ _ x => x
    · have e : (fun y => if y = x then some (Value.str c u) else m y) = (fun y => if y = x then some (Value.str c u) else mOn l m y) := by
        funext y; rw [congrFun (keep_on k) y]
      rw [← e]; exact F
    have up : UnrEnd h₀ env.locals { s with heap := h, toks := tk } I it (fun m' n' => Keep l m' ∧ n' = news ∧ D r) s₃ → UnrEnd h₀ env.locals { s with heap := h, toks := tk } I it (StrRest prog w A E h₀ env x body Q s I r) s₃ := by
      rintro ⟨h', tk', m', news', e, F', N', off, k', rfl, d'⟩
      exact ⟨h', tk', m', news', e, F', N', off, str_rest l D zero turn r m' k' d'⟩
    cases f with
    | ret v => exact q
    | brk => exact q
    | next => exact up q
    | cont => exact up q
theorem str_keep {tx : Str} {t : Tok} {m₀ : Str → Option Value} {news : List (Addr × Obj)} (l : List (Str × Value)) (D : List Str → Prop) (hh : A.handled = none) (F : Fr h₀ env.locals s.heap m₀) (N : News h₀ env.locals s.heap news)
    (hm : Keep l m₀) (hD : D (tx.cps.toList.map fun c => (⟨#[c]⟩ : Str)))
    (zero : ∀ m h tk, D [] → Fr h₀ env.locals h (fun y => mOn l m y) → News h₀ env.locals h news → Q .next { s with heap := h, toks := tk })
    (turn : ∀ I c r m h tk o u, (∀ q ∈ news, q.1 < I) → D (c :: r) → Fr h₀ env.locals h (fun y => if y = x then some (.str c u) else mOn l m y) → News h₀ env.locals h ((I, o) :: news) →
      wpAny (model prog w) A (execs body env) (UnrPost h₀ env.locals { s with heap := h, toks := tk } I o (fun m' n' => Keep l m' ∧ n' = news ∧ D r) Q) E { s with heap := h, toks := tk }) :
    wpAny (model prog w) A (pyIter (.str tx t)) (fun it s₂ => LoopAtV prog w A h₀ env x body Q E it s₂) E s :=
  iter_strUnr hh F N rfl fun I hI => str_rest l D zero (fun c r m h tk o u d => turn I c r m h tk o u hI d) _ _ hm hD
/-- a turn's end under str_keep -/
theorem turn_str {I L : Addr} {o : Obj} {news news₁ : List (Addr × Obj)} {l : List (Str × Value)} {D : Prop} {s₁ : Shared} {h' : Heap} {tk : Nat} {m' : Str → Option Value}
    (F : Fr h₀ L h' m') (N : News h₀ L h' news₁) (hI : (I, o) ∈ news₁) (hs : ∀ q ∈ news, q ∈ news₁) (off : ∀ q ∈ news, q.1 < I) (km : Keep l m') (d : D) :
    UnrEnd h₀ L s₁ I o (fun m' n' => Keep l m' ∧ n' = news ∧ D) { s₁ with heap := h', toks := tk } := by
  refine ⟨h', tk, m', news, rfl, F, fun q hq => ?_, fun q hq => Nat.ne_of_lt (off q hq), km, rfl, d⟩
  rcases List.mem_cons.mp hq with rfl | hq
  · exact N _ hI
  · exact N _ (hs _ hq)
end

/-! ### a comprehension by what holds between its turns -/
open PyProof.Rows.LCg (NsObj lst ns_obj lst_snoc)
noncomputable def Tst (prog : Program) (w : World) (A : Around) (ct : Option Expr) (env : Env) (E : Value → Shared → Prop) (K : Bool → Shared → Prop) (s : Shared) : Prop := match ct with
  | none => K true s
  | some c => wpAny (model prog w) A (isTrue c env (eval c env)) K E s
/-- a turn's end -/
inductive CEnd (h₀ : Heap) (L : Addr) (m : Str → Option Value) (s₁ : Shared) (its : List (Addr × Obj)) (C D : Addr) (ys : List Value) (rest : List (Addr × Obj) → Prop) (s₂ : Shared) : Prop
  | mk (h') (tk) (news') (oC) (m') (z0 : s₂ = { s₁ with heap := h', toks := tk }) (z1 : Fr h₀ L h' m) (z2 : NsObj oC m') (z3 : News h₀ L h' (its ++ (C, oC) :: (D, lst ys) :: news')) (z4 : (∀ p ∈ news', (∀ q ∈ its, p.1 ≠ q.1) ∧ p.1 ≠ C ∧ p.1 ≠ D)) (z5 : rest news') : CEnd h₀ L m s₁ its C D ys rest s₂
noncomputable abbrev ifsOf (ct : Option Expr) : List Expr := match ct with | none => [] | some c => [c]
section
variable {prog : Program} {w : World} {A : Around} {E : Value → Shared → Prop} {s : Shared}
theorem comp_loop1 {elt target iter : PySem.Expr} {ct : Option Expr} {scope : Scope} {pos : Pos} {it acc : Value} {env : Env} {R : Result → Shared → Prop} (I : Nat → Shared → Prop)
    (turn : ∀ n s, I n s → wpAny (model prog w) A (pyNext it) (fun r s₁ => match r with
      | none => R (.ok .next) s₁
      | some v => wpAny (model prog w) A (letOwnedTupleGo target it v) (fun _ s₀ => wpAny (model prog w) A (assign target env v) (fun _ s₂ =>
          Tst prog w A ct env (notedBy (model prog w) A env fun e s' => R (.error e) s') (fun ok s₃ => if ok = true then wpAny (model prog w) A (eval elt env) (fun x s₄ =>
            wpAny (model prog w) A (call (.builtin "list.append") [acc, x]) (fun _ s₅ => ∃ m, m < n ∧ I m s₅) (notedBy (model prog w) A env fun e s' => R (.error e) s') s₄) (notedBy (model prog w) A env fun e s' => R (.error e) s') s₃
            else ∃ m, m < n ∧ I m s₃) s₂) (notedBy (model prog w) A env fun e s' => R (.error e) s') s₀)
          (notedBy (model prog w) A env fun e s' => R (.error e) s') s₁) (notedBy (model prog w) A env fun e s' => R (.error e) s') s)
    (n : Nat) (h : I n s) : codeAny (model prog w) A (.compLoop (.ListComp elt [⟨target, iter, ifsOf ct, 0⟩] scope pos) 0 it acc env) R s := by
  cases ct with
  | none => exact kcp_loop I (fun n s hI => wpAny_mono (turn n s hI) (fun r s₁ h₁ => by
      cases r with
      | none => exact h₁
      | some v => exact wpAny_mono h₁ (fun _ s₀ h₀ => wpAny_mono h₀ (fun _ s₂ h₂ => h₂) fun _ _ e => e) fun _ _ e => e) fun _ _ e => e) n h
  | some c => exact kct_loop I turn n h
end
theorem tst_mono {prog : Program} {w : World} {A : Around} {ct : Option Expr} {env : Env} {E : Value → Shared → Prop} {K K' : Bool → Shared → Prop} {s : Shared} (h : Tst prog w A ct env E K s) (k : ∀ b s', K b s' → K' b s') : Tst prog w A ct env E K' s := by
  cases ct with
  | none => exact k _ _ h
  | some c => exact wpAny_mono h (fun b s' x => k b s' x) fun _ _ e => e
section
variable {prog : Program} {w : World} {A : Around} {E : Value → Shared → Prop} {s : Shared} {h₀ : Heap} {L : Addr} {m : Str → Option Value} {env : Env} {target elt iter : Expr} {ct : Option Expr} {scope : Scope} {cl : List (Str × Addr)} {pos : Pos}
theorem comp_core {RR : Value → Addr → Result → Shared → Prop} {I : Addr} {fp wr : List Addr} {n : Nat} {P Md : Nat → Value → Heap → Prop} {St : Nat → Heap → Prop} {ws : List (Addr × String)} {keep : List (Addr × Obj)} {xs : List Itm} {news : List (Addr × Obj)}
    (W : KTurns prog w A target I fp wr n P Md St) (hself : ∀ (s : Shared) (Q : Value → Shared → Prop) (E : Value → Shared → Prop), St 0 s.heap → Q (.ref I) s → wpAny (model prog w) A (pyIter (.ref I)) Q E s)
    (hn : n = xs.length) (hsz : n ≤ sizeLine) (hP : ∀ i v h, P i v h → ∃ a, xs[i]? = some a ∧ a.Is v h) (hobj : ∀ i h, St i h → ∃ its, Objs ws its ∧ ∀ p ∈ its, h.get? p.1 = some p.2)
    (hws : ∀ b ∈ ws.map (·.1), b ∈ fp ∧ h₀.get? b = none) (hwr : ∀ b ∈ wr, b ∈ ws.map (·.1)) (hfp : ∀ b ∈ fp, b ∈ ws.map (·.1) ∨ (∃ o, (b, o) ∈ keep) ∨ ∃ o, h₀.get? b = some o) (hL : L ∉ fp) (hlt : ∀ b ∈ fp, b < s.heap.objs.size)
    (hnw : ∀ p ∈ news, p.1 ∉ ws.map (·.1)) (hst : St 0 s.heap) (F : Fr h₀ L s.heap m) (N : News h₀ L s.heap news)
    (hcell : ∀ y ∈ scope.names, y.2 ≠ .cell) (hkind : scope.kind = .function)
    (B : Itm → List (Addr × Obj) → (Str → Option Value) → Prop) (J : List Itm → List Value → List (Addr × Obj) → Prop)
    (hasg : ∀ a r ys news v C m₂ (s : Shared) (Q : Unit → Shared → Prop) (E : Value → Shared → Prop), J (a :: r) ys news → a.Is v s.heap → (∀ p ∈ news, s.heap.get? p.1 = some p.2) → (∀ b o, h₀.get? b = some o → s.heap.get? b = some o) → s.heap.Ns C m₂ →
      (∀ h' tk m', B a news m' → h'.Ns C m' → (∀ c o, c ≠ C → s.heap.get? c = some o → h'.get? c = some o) → Q () { s with heap := h', toks := tk }) → wpAny (model prog w) A (assign target (compEnvC scope cl C env) v) Q E s)
    (J0 : J xs [] news) (hJk : ∀ r ys news, J r ys news → ∀ q ∈ keep, q ∈ news)
    (turn : ∀ a r ys news' C D m₂ h tk E', J (a :: r) ys news' → B a news' m₂ → Fr h₀ L h m → (@Ne Nat C D) → (∀ p ∈ news', p.1 ≠ C ∧ p.1 ≠ D) → AllObj ws (fun its => ∀ oC, NsObj oC m₂ → News h₀ L h (its ++ (C, oC) :: (D, lst ys) :: news') → (∀ q ∈ its, q.1 ≠ C ∧ q.1 ≠ D ∧ ∀ p ∈ news', p.1 ≠ q.1) →
      Tst prog w A ct (compEnvC scope cl C env) E' (fun ok s₃ => if ok = true then wpAny (model prog w) A (eval elt (compEnvC scope cl C env)) (fun y s₄ => CEnd h₀ L m { s with heap := h, toks := tk } its C D ys (J r (ys ++ [y])) s₄) E' s₃
        else CEnd h₀ L m { s with heap := h, toks := tk } its C D ys (J r ys) s₃) { s with heap := h, toks := tk }))
    (hRR : ∀ D C h tk m' ys news', Fr h₀ L h m → News h₀ L h ((D, lst ys) :: news') → (∀ p ∈ news', p.1 ≠ C ∧ p.1 ≠ D) → h.Ns C m' → h₀.get? C = none → h₀.get? D = none → C ≠ L → D ≠ L → C ≠ D → J [] ys news' → RR (.ref D) C (.ok .next) { s with heap := h, toks := tk }) :
    wpAny (model prog w) A (newList []) (fun acc s₃ => wpAny (model prog w) A (newFunctionEnv scope env.globals cl [] env.qual none .none (some env)) (fun cenv s₄ =>
      codeAny (model prog w) A (.compStart (.ListComp elt [⟨target, iter, ifsOf ct, 0⟩] scope pos) 0 (.ref I) acc { cenv with scope := relabel scope env }) (RR acc cenv.locals) s₄) E s₃) E s := by
  refine wpAny_newObj_type (wpAny_newFunctionEnv hcell (by intro y hy; simp at hy) (fun h₁ hns₁ hsb₁ => ?_) hkind)
  dsimp only at hns₁ hsb₁ ⊢
  generalize hH2 : s.heap.push { cls := .type "list", dict := none, data := .seq ([] : List Value).toArray } = H2 at hns₁ hsb₁ ⊢
  have hC : H2.objs.size = s.heap.objs.size + 1 := by rw [← hH2, Heap.size_push]
  have hDC : s.heap.objs.size ≠ H2.objs.size := by rw [hC]; exact Nat.ne_of_lt (Nat.lt_succ_self _)
  have below : ∀ b, b < s.heap.objs.size → b ≠ H2.objs.size ∧ b ≠ s.heap.objs.size := fun b hb => ⟨by rw [hC]; exact Nat.ne_of_lt (Nat.lt_succ_of_lt hb), Nat.ne_of_lt hb⟩
  have old : ∀ b o, s.heap.get? b = some o → h₁.get? b = some o := fun b o e => hsb₁.extBut b o (below b (Heap.lt_size e)).1 (Heap.get?_push_of_some _ (hH2 ▸ Heap.get?_push_of_some _ e))
  have hacc : h₁.get? s.heap.objs.size = some (lst []) := hsb₁.extBut _ _ hDC (Heap.get?_push_of_some _ (hH2 ▸ Heap.get?_push_size _ rfl))
  have fresh₀ : ∀ a, s.heap.objs.size ≤ a → h₀.get? a = none := fun a ha => by
    cases e : h₀.get? a with
    | none => rfl
    | some o' => exact absurd (Heap.lt_size (F.keep a o' e)) (Nat.not_lt.mpr ha)
  have hD₀ : h₀.get? s.heap.objs.size = none := fresh₀ _ (Nat.le_refl _)
  have hC₀ : h₀.get? H2.objs.size = none := fresh₀ _ (by rw [hC]; exact Nat.le_succ _)
  have hLlt : L < s.heap.objs.size := F.ns.lt
  have hDL : s.heap.objs.size ≠ L := Ne.symm (below L hLlt).2
  have hCL : H2.objs.size ≠ L := Ne.symm (below L hLlt).1
  have hCf : H2.objs.size ∉ fp := fun h => (below _ (hlt _ h)).1 rfl
  have hDf : s.heap.objs.size ∉ fp := fun h => (below _ (hlt _ h)).2 rfl
  have hwf : ∀ b ∈ wr, b ∈ fp := W.sub
  have wr₀ : ∀ b ∈ wr, h₀.get? b = none := fun b hb => (hws b (hwr b hb)).2
  have st₁ : St 0 h₁ := W.frame _ _ _ hst fun b _ o e => old b o e
  have loop : ∀ s₃ : Shared, s₃ = { s with heap := h₁, toks := s.toks + ([] : List (Str × Value)).length } →
      codeAny (model prog w) A (.compLoop (.ListComp elt [⟨target, iter, ifsOf ct, 0⟩] scope pos) 0 (.ref I) (.ref s.heap.objs.size) (compEnvC scope cl H2.objs.size env)) (RR (.ref s.heap.objs.size) H2.objs.size) s₃ := by
    rintro s₃ rfl
    refine comp_loop1
      (fun k s' => ∃ h' tk i ys m' news', s' = { s with heap := h', toks := tk } ∧ i ≤ n ∧ k = n + 1 - i ∧ ys.length ≤ i ∧ St i h' ∧ Fr h₀ L h' m ∧ h'.Ns H2.objs.size m' ∧ News h₀ L h' ((s.heap.objs.size, lst ys) :: news') ∧
        (∀ p ∈ news', p.1 ∉ ws.map (·.1) ∧ p.1 ≠ H2.objs.size ∧ p.1 ≠ s.heap.objs.size) ∧ J (xs.drop i) ys news') ?_ (n + 1)
      ⟨h₁, _, 0, [], _, news, rfl, Nat.zero_le _, rfl, Nat.le_refl _, st₁, F.keeps old, hns₁, fun p hp => ?_, fun p hp => ⟨hnw p hp, below _ (Heap.lt_size (N p hp).1)⟩, by rw [List.drop_zero]; exact J0⟩
    · rintro k s' ⟨h', tk, i, ys, m', news', rfl, hi, rfl, hyl, hst', F', hn', N', off', J'⟩
      by_cases hlti : i < n
      · refine W.item i _ _ _ hlti hst' fun v h₂ tk₂ hMd hk₂ => ?_
        refine W.go i v _ _ _ hMd fun h₃ hPi hst₃ hk₃ => ?_
        obtain ⟨a, ha, hav⟩ := hP i v h₃ hPi
        have hdrop : xs.drop i = a :: xs.drop (i + 1) := by
          have hlt' : i < xs.length := hn ▸ hlti
          rw [List.drop_eq_getElem_cons hlt']
          congr 1
          exact Option.some.inj ((List.getElem?_eq_getElem hlt').symm.trans ha)
        rw [hdrop] at J'
        have up₃ : ∀ c o, c ∉ wr → h'.get? c = some o → h₃.get? c = some o := fun c o hc e => hk₃ c o hc (hk₂ c o hc e)
        have keepOf : ∀ b o, h₀.get? b = some o → b ∉ wr := fun b o e hb => by rw [wr₀ b hb] at e; cases e
        refine hasg a _ ys news' v H2.objs.size m' _ _ _ J' hav (fun p hp => up₃ _ _ (fun q => (off' p hp).1 (hwr _ q)) (N' p (List.mem_cons_of_mem _ hp)).1) (fun b o e => up₃ b o (keepOf b o e) (F'.keep b o e)) (hn'.at' fun o e => up₃ _ o (fun q => hCf (hwf _ q)) e) fun h₄ tk₄ m₄ hB hn₄ hs₄ => ?_
        have up : ∀ c o, c ∉ wr → c ≠ H2.objs.size → h'.get? c = some o → h₄.get? c = some o := fun c o h1 h2 e => hs₄ c o h2 (up₃ c o h1 e)
        obtain ⟨its, hits, hval⟩ := hobj _ _ hst₃
        have hmap := hits.map
        have itsF : ∀ p ∈ its, p.1 ∈ fp ∧ h₀.get? p.1 = none := fun p hp => hws _ (by rw [← hmap]; exact List.mem_map.mpr ⟨p, hp, rfl⟩)
        have hst₄ : St (i + 1) h₄ := W.frame _ _ _ hst₃ fun b hb o e => hs₄ b o (fun q => hCf (q ▸ hb)) e
        obtain ⟨oC, heC, hoC⟩ := ns_obj hn₄
        have F₄ : Fr h₀ L h₄ m := ⟨F'.ns.at' fun o e => up _ o (fun q => hL (hwf _ q)) (Ne.symm hCL) e, fun c o e => up c o (keepOf c o e) (fun q => by rw [q, hC₀] at e; cases e) (F'.keep c o e), F'.above⟩
        have N₄ : News h₀ L h₄ (its ++ (H2.objs.size, oC) :: (s.heap.objs.size, lst ys) :: news') := fun q hq => by
          rcases List.mem_append.mp hq with hq | hq
          · exact ⟨hs₄ _ _ (fun e => hCf (e ▸ (itsF q hq).1)) (hval q hq), fun e => hL (e ▸ (itsF q hq).1), (itsF q hq).2⟩
          rcases List.mem_cons.mp hq with rfl | hq
          · exact ⟨heC, hCL, hC₀⟩
          have z := N' q hq
          rcases List.mem_cons.mp hq with rfl | hq
          · exact ⟨up _ _ (fun e => hDf (hwf _ e)) hDC z.1, z.2⟩
          · exact ⟨up _ _ (fun e => (off' q hq).1 (hwr _ e)) (off' q hq).2.1 z.1, z.2⟩
        have fin : ∀ (ys' : List Value) (y? : List Value) (h₅ : Heap) (tk₅ : Nat) (news₅ : List (Addr × Obj)) (oC₅ : Obj) (m₅ : Str → Option Value), ys'.length ≤ i + 1 → Fr h₀ L h₅ m → NsObj oC₅ m₅ → News h₀ L h₅ (its ++ (H2.objs.size, oC₅) :: (s.heap.objs.size, lst ys') :: news₅) →
            (∀ p ∈ news₅, (∀ q ∈ its, p.1 ≠ q.1) ∧ p.1 ≠ H2.objs.size ∧ p.1 ≠ s.heap.objs.size) → J (xs.drop (i + 1)) ys' news₅ →
            ∃ q', q' < n + 1 - i ∧ (∃ h' tk i ys m' news', ({ s with heap := h₅, toks := tk₅ } : Shared) = { s with heap := h', toks := tk } ∧ i ≤ n ∧ q' = n + 1 - i ∧ ys.length ≤ i ∧ St i h' ∧ Fr h₀ L h' m ∧ h'.Ns H2.objs.size m' ∧
              News h₀ L h' ((s.heap.objs.size, lst ys) :: news') ∧ (∀ p ∈ news', p.1 ∉ ws.map (·.1) ∧ p.1 ≠ H2.objs.size ∧ p.1 ≠ s.heap.objs.size) ∧ J (xs.drop i) ys news') := by
          intro ys' _ h₅ tk₅ news₅ oC₅ m₅ hl F₅ hoC₅ N₅ off₅ J₅
          have zC := (N₅ (H2.objs.size, oC₅) (List.mem_append_right _ List.mem_cons_self)).1
          refine ⟨n + 1 - (i + 1), by omega, h₅, tk₅, i + 1, ys', _, news₅, rfl, hlti, rfl, hl, ?_, F₅, hoC₅.ns zC, fun q hq => N₅ q (List.mem_append_right _ (List.mem_cons_of_mem _ hq)), fun p hp => ⟨fun hb => ?_, (off₅ p hp).2⟩, J₅⟩
          · refine W.frame _ _ _ hst₄ fun b hb o e => ?_
            rcases hfp b hb with h3 | ⟨o', h3⟩ | ⟨o', h3⟩
            · have h4 : b ∈ its.map (·.1) := by rw [hmap]; exact h3
              obtain ⟨⟨qa, qo⟩, hq, hqe⟩ := List.mem_map.mp h4
              have hqe' : qa = b := hqe
              subst hqe'
              have h5 : h₄.get? qa = some qo := (N₄ _ (List.mem_append_left _ hq)).1
              obtain rfl : qo = o := Option.some.inj (h5.symm.trans e)
              exact (N₅ _ (List.mem_append_left _ hq)).1
            · have h5 : h₄.get? b = some o' := (N₄ _ (List.mem_append_right _ (List.mem_cons_of_mem _ (List.mem_cons_of_mem _ (hJk _ _ _ J' _ h3))))).1
              obtain rfl : o' = o := Option.some.inj (h5.symm.trans e)
              exact (N₅ _ (List.mem_append_right _ (List.mem_cons_of_mem _ (List.mem_cons_of_mem _ (hJk _ _ _ J₅ _ h3))))).1
            · obtain rfl : o' = o := Option.some.inj ((F₄.keep b o' h3).symm.trans e)
              exact F₅.keep b o' h3
          · have h4 : p.1 ∈ its.map (·.1) := by rw [hmap]; exact hb
            obtain ⟨q, hq, hqe⟩ := List.mem_map.mp h4
            exact (off₅ p hp).1 q hq hqe.symm
        have T := (turn a _ ys news' H2.objs.size s.heap.objs.size m₄ h₄ tk₄ (notedBy (model prog w) A (compEnvC scope cl H2.objs.size env) fun e s' => RR (.ref s.heap.objs.size) H2.objs.size (.error e) s') J' hB F₄ (Ne.symm hDC) (fun p hp => (off' p hp).2)).at hits oC hoC N₄
          (fun q hq => ⟨fun e => hCf (e ▸ (itsF q hq).1), fun e => hDf (e ▸ (itsF q hq).1), fun p hp e => (off' p hp).1 (by rw [e, ← hmap]; exact List.mem_map.mpr ⟨q, hq, rfl⟩)⟩)
        refine tst_mono T (fun ok s₅ h₅ => ?_)
        cases ok with
        | false =>
          simp only [Bool.false_eq_true, if_false] at h₅ ⊢
          obtain ⟨h₅, tk₅, news₅, oC₅, m₅, rfl, F₅, hoC₅, N₅, off₅, J₅⟩ := h₅
          exact fin ys [] h₅ tk₅ news₅ oC₅ m₅ (Nat.le_succ_of_le hyl) F₅ hoC₅ N₅ off₅ J₅
        | true =>
          simp only [if_true] at h₅ ⊢
          refine wpAny_mono h₅ (fun y s₆ h₆ => ?_) fun _ _ e => e
          obtain ⟨h₅, tk₅, news₅, oC₅, m₅, rfl, F₅, hoC₅, N₅, off₅, J₅⟩ := h₆
          have zD := (N₅ (s.heap.objs.size, lst ys) (List.mem_append_right _ (List.mem_cons_of_mem _ List.mem_cons_self))).1
          refine append_at (hsz := by show ys.toArray.size ≤ sizeLine; rw [List.size_toArray]; exact Nat.le_trans hyl (Nat.le_trans hi hsz)) zD fun h₆ hs₆ hD₆ => ?_
          refine fin (ys ++ [y]) [] h₆ _ news₅ oC₅ m₅ (by rw [List.length_append, List.length_singleton]; exact Nat.succ_le_succ hyl) (F₅.change hs₆ hDL hD₀) hoC₅ (fun q hq => ?_) off₅ J₅
          rcases List.mem_append.mp hq with hq' | hq'
          · exact ⟨hs₆.extBut _ _ (fun e => hDf (e ▸ (itsF q hq').1)) (N₅ _ (List.mem_append_left _ hq')).1, (N₅ _ (List.mem_append_left _ hq')).2⟩
          rcases List.mem_cons.mp hq' with rfl | hq''
          · have z := N₅ (H2.objs.size, oC₅) (List.mem_append_right _ List.mem_cons_self)
            exact ⟨hs₆.extBut _ _ (Ne.symm hDC) z.1, z.2⟩
          rcases List.mem_cons.mp hq'' with rfl | hq3
          · exact ⟨hD₆.trans (congrArg some (lst_snoc ys y)), hDL, hD₀⟩
          · have z := N₅ q (List.mem_append_right _ (List.mem_cons_of_mem _ (List.mem_cons_of_mem _ hq3)))
            exact ⟨hs₆.extBut _ _ (off₅ q hq3).2.2 z.1, z.2⟩
      · have hin : i = n := Nat.le_antisymm hi (Nat.not_lt.mp hlti)
        subst hin
        have hnil : xs.drop i = [] := List.drop_eq_nil_of_le (Nat.le_of_eq hn.symm)
        rw [hnil] at J'
        refine W.done _ _ _ hst' fun h₂ tk₂ hk₂ => ?_
        have keepOf : ∀ b o, h₀.get? b = some o → b ∉ wr := fun b o e hb => by rw [wr₀ b hb] at e; cases e
        exact hRR _ _ h₂ tk₂ _ ys news' ⟨F'.ns.at' fun o e => hk₂ _ o (fun q => hL (hwf _ q)) e, fun b o e => hk₂ b o (keepOf b o e) (F'.keep b o e), F'.above⟩ (fun p hp => by
          refine ⟨hk₂ _ _ ?_ (N' p hp).1, (N' p hp).2⟩
          rcases List.mem_cons.mp hp with rfl | hp
          · exact fun q => hDf (hwf _ q)
          · exact fun q => (off' p hp).1 (hwr _ q)) (fun p hp => (off' p hp).2) (hn'.at' fun o e => hk₂ _ o (fun q => hCf (hwf _ q)) e) hC₀ hD₀ hCL hDL (Ne.symm hDC) J'
    · rcases List.mem_cons.mp hp with rfl | hp
      · exact ⟨hacc, hDL, hD₀⟩
      · exact ⟨old _ _ (N p hp).1, (N p hp).2⟩
  exact codeAny_compStart_list (loop _ rfl) (hself _ _ _ st₁ (loop _ rfl))
end

/-- the source's iterator, all that the loop needs -/
inductive CompAt (prog : Program) (w : World) (A : Around) (h₀ : Heap) (L : Addr) (m : Str → Option Value) (env : Env) (target elt : Expr) (ct : Option Expr) (scope : Scope) (cl : List (Str × Addr)) (Fin : Shared → List Value → List (Addr × Obj) → Prop) (it : Value) (s : Shared) : Prop
  | mk (I : Addr) (fp wr : List Addr) (n : Nat) (P Md : Nat → Value → Heap → Prop) (St : Nat → Heap → Prop) (ws : List (Addr × String)) (keep : List (Addr × Obj)) (xs : List Itm) (news : List (Addr × Obj)) (B : Itm → List (Addr × Obj) → (Str → Option Value) → Prop) (J : List Itm → List Value → List (Addr × Obj) → Prop) (z0 : it = .ref I) (z1 : KTurns prog w A target I fp wr n P Md St) (z2 : (∀ (s : Shared) (Q : Value → Shared → Prop) (E : Value → Shared → Prop), St 0 s.heap → Q (.ref I) s → wpAny (model prog w) A (pyIter (.ref I)) Q E s)) (z3 : n = xs.length) (z4 : n ≤ sizeLine) (z5 : (∀ i v h, P i v h → ∃ a, xs[i]? = some a ∧ a.Is v h)) (z6 : (∀ i h, St i h → ∃ its, Objs ws its ∧ ∀ p ∈ its, h.get? p.1 = some p.2)) (z7 : (∀ b ∈ ws.map (·.1), b ∈ fp ∧ h₀.get? b = none)) (z8 : (∀ b ∈ wr, b ∈ ws.map (·.1))) (z9 : (∀ b ∈ fp, b ∈ ws.map (·.1) ∨ (∃ o, (b, o) ∈ keep) ∨ ∃ o, h₀.get? b = some o)) (z10 : L ∉ fp) (z11 : (∀ b ∈ fp, b < s.heap.objs.size)) (z12 : (∀ p ∈ news, p.1 ∉ ws.map (·.1))) (z13 : St 0 s.heap) (z14 : Fr h₀ L s.heap m) (z15 : News h₀ L s.heap news) (z16 : (∀ a r ys news v C m₂ (s : Shared) (Q : Unit → Shared → Prop) (E : Value → Shared → Prop), J (a :: r) ys news → a.Is v s.heap → (∀ p ∈ news, s.heap.get? p.1 = some p.2) → (∀ b o, h₀.get? b = some o → s.heap.get? b = some o) → s.heap.Ns C m₂ → (∀ h' tk m', B a news m' → h'.Ns C m' → (∀ c o, c ≠ C → s.heap.get? c = some o → h'.get? c = some o) → Q () { s with heap := h', toks := tk }) → wpAny (model prog w) A (assign target (compEnvC scope cl C env) v) Q E s)) (z17 : J xs [] news) (z18 : (∀ r ys news, J r ys news → ∀ q ∈ keep, q ∈ news)) (z19 : (∀ a r ys news' C D m₂ h tk E', J (a :: r) ys news' → B a news' m₂ → Fr h₀ L h m → (@Ne Nat C D) → (∀ p ∈ news', p.1 ≠ C ∧ p.1 ≠ D) → AllObj ws (fun its => ∀ oC, NsObj oC m₂ → News h₀ L h (its ++ (C, oC) :: (D, lst ys) :: news') → (∀ q ∈ its, q.1 ≠ C ∧ q.1 ≠ D ∧ ∀ p ∈ news', p.1 ≠ q.1) → Tst prog w A ct (compEnvC scope cl C env) E' (fun ok s₃ => if ok = true then wpAny (model prog w) A (eval elt (compEnvC scope cl C env)) (fun y s₄ => CEnd h₀ L m { s with heap := h, toks := tk } its C D ys (J r (ys ++ [y])) s₄) E' s₃ else CEnd h₀ L m { s with heap := h, toks := tk } its C D ys (J r ys) s₃) { s with heap := h, toks := tk }))) (z20 : ∀ ys news', J [] ys news' → Fin s ys news') : CompAt prog w A h₀ L m env target elt ct scope cl Fin it s
/-- behind the loop -/
noncomputable def FinX (h₀ : Heap) (L : Addr) (m : Str → Option Value) (Q : Value → Shared → Prop) (s : Shared) (ys : List Value) (news : List (Addr × Obj)) : Prop :=
  ∀ D h tk, Fr h₀ L h m → News h₀ L h ((D, lst ys) :: news) → (∀ p ∈ news, p.1 ≠ D) → Q (.ref D) { s with heap := h, toks := tk }
noncomputable def FinY (h₀ : Heap) (L : Addr) (m : Str → Option Value) (y : Str) (Q : Flow → Shared → Prop) (s : Shared) (ys : List Value) (news : List (Addr × Obj)) : Prop :=
  ∀ D h tk, Fr h₀ L h (fun z => if z = y then some (.ref D) else m z) → News h₀ L h ((D, lst ys) :: news) → (∀ p ∈ news, p.1 ≠ D) → Q .next { s with heap := h, toks := tk }
section
variable {prog : Program} {w : World} {A : Around} {E : Value → Shared → Prop} {s : Shared} {h₀ : Heap} {L : Addr} {m : Str → Option Value} {env : Env} {target elt iter : Expr} {ct : Option Expr} {scope : Scope} {cl : List (Str × Addr)} {pos : Pos}
theorem compAt_go {Fin : Shared → List Value → List (Addr × Obj) → Prop} {RR : Value → Addr → Result → Shared → Prop} {it : Value} (x : CompAt prog w A h₀ L m env target elt ct scope cl Fin it s)
    (hcell : ∀ y ∈ scope.names, y.2 ≠ .cell) (hkind : scope.kind = .function)
    (hRR : ∀ D C h tk m' ys news', Fr h₀ L h m → News h₀ L h ((D, lst ys) :: news') → (∀ p ∈ news', p.1 ≠ C ∧ p.1 ≠ D) → h.Ns C m' → h₀.get? C = none → h₀.get? D = none → C ≠ L → D ≠ L → C ≠ D → Fin s ys news' → RR (.ref D) C (.ok .next) { s with heap := h, toks := tk }) :
    wpAny (model prog w) A (newList []) (fun acc s₃ => wpAny (model prog w) A (newFunctionEnv scope env.globals cl [] env.qual none .none (some env)) (fun cenv s₄ =>
      codeAny (model prog w) A (.compStart (.ListComp elt [⟨target, iter, ifsOf ct, 0⟩] scope pos) 0 it acc { cenv with scope := relabel scope env }) (RR acc cenv.locals) s₄) E s₃) E s := by
  obtain ⟨I, fp, wr, n, P, Md, St, ws, keep, xs, news, B, J, rfl, W, a1, a2, a3, a4, a5, a6, a7, a8, a9, a10, a11, a12, F, N, a13, a14, a15, a16, a17⟩ := x
  exact comp_core W a1 a2 a3 a4 a5 a6 a7 a8 a9 a10 a11 a12 F N hcell hkind B J a13 a14 a15 a16 fun D C h tk m' ys news' b1 b2 b3 b4 b5 b6 b7 b8 b9 b10 => hRR D C h tk m' ys news' b1 b2 b3 b4 b5 b6 b7 b8 b9 (a17 ys news' b10)
theorem ListComp_G {Q : Value → Shared → Prop} (_F : Fr h₀ L s.heap m) (hclos : closureFor scope env = pure cl) (hcell : ∀ y ∈ scope.names, y.2 ≠ .cell) (hkind : scope.kind = .function)
    (hnames : ∀ y ∈ scope.names, y.2 = .local → scope.names.lookup y.1 = some .local)
    (h : wpAny (model prog w) A (eval iter env) (fun xv s₁ => wpAny (model prog w) A (pyIter xv) (fun it s₂ => CompAt prog w A h₀ L m env target elt ct scope cl (FinX h₀ L m Q) it s₂) E s₁) E s)
    (hs : ∀ x, foldedSetIterable iter env x = pure x := by intro _; rfl) :
    wpAny (model prog w) A (eval (.ListComp elt [⟨target, iter, ifsOf ct, 0⟩] scope pos) env) Q E s := by
  rw [eval_ListComp]
  refine wpAny_comprehension_free (use := none) rfl hs hclos hkind hnames (wpAny_mono h (fun xv s₁ h₁ => wpAny_mono h₁ (fun it s₂ h₂ => ?_) fun _ _ e => e) fun _ _ e => e)
  refine compAt_go h₂ hcell hkind fun D C h tk m' ys news' F' N' off hn hC₀ hD₀ hCL hDL hCD fin => ⟨m', hn, fun h'' hs'' => fin D h'' tk (F'.change hs'' hCL hC₀) (fun p hp => ?_) fun p hp => (off p hp).2⟩
  refine ⟨hs''.extBut _ _ ?_ (N' p hp).1, (N' p hp).2⟩
  rcases List.mem_cons.mp hp with rfl | hp
  · exact Ne.symm hCD
  · exact (off p hp).1
theorem Assign_ListComp_G {Q : Flow → Shared → Prop} {y : Str} {py spos : Pos} (_F : Fr h₀ L s.heap m) (hLe : env.locals = L)
    (hsw : swapsWith (.ListComp elt [⟨target, iter, ifsOf ct, 0⟩] scope pos) (some (.Name y py)) spos.line env = pure true)
    (hclos : closureFor scope env = pure cl) (hcell : ∀ y ∈ scope.names, y.2 ≠ .cell) (hkind : scope.kind = .function)
    (hnames : ∀ y ∈ scope.names, y.2 = .local → scope.names.lookup y.1 = some .local)
    (hy : env.kindOf y = some .local) (hp : (env.scope.kind == .class || (env.scope.kind == .module && env.locals != env.globals)) = false)
    (h : wpAny (model prog w) A (eval iter env) (fun xv s₁ => wpAny (model prog w) A (pyIter xv) (fun it s₂ => CompAt prog w A h₀ L m env target elt ct scope cl (FinY h₀ L m y Q) it s₂) E s₁) E s)
    (hs : ∀ x, foldedSetIterable iter env x = pure x := by intro _; rfl) :
    wpAny (model prog w) A (exec (.Assign [.Name y py] (.ListComp elt [⟨target, iter, ifsOf ct, 0⟩] scope pos) spos) env) Q E s := by
  subst hLe
  rw [exec_Assign_Name_used _ _ _ _ hsw]
  refine wpAny_bind (wpAny_standAt (wpAny_bind ?_))
  show wpAny _ A (do let _ ← comprehension (.ListComp elt [⟨target, iter, ifsOf ct, 0⟩] scope pos) scope env _ (newList []) false (eval iter env) (some (assign (.Name y py) env))) _ _ s
  refine wpAny_bind (wpAny_mono (wpAny_comprehension_free (use := some (assign (.Name y py) env)) (Q := fun _ s' => Q .next s') rfl hs hclos hkind hnames
    (wpAny_mono h (fun xv s₁ h₁ => wpAny_mono h₁ (fun it s₂ h₂ => ?_) fun _ _ e => e) fun _ _ e => e)) (fun _ s' hq => wpAny_pure (wpAny_pure hq)) fun _ _ e => e)
  refine compAt_go h₂ hcell hkind fun D C h' tk m' ys news' F' N' off hn hC₀ hD₀ hCL hDL hCD fin => ?_
  show wpAny _ A (assign (.Name y py) env (.ref D)) _ _ _
  refine wpAny_assign_Name (wpAny_storeName_local hy F'.ns (fun h₂ hn₂ hs₂ => ?_) hp)
  have hL₀ : h₀.get? env.locals = none := Heap.get?_none_of_le F'.above
  have F₂ : Fr h₀ env.locals h₂ (fun z => if z = y then some (.ref D) else m z) := ⟨hn₂, fun b o e => hs₂.extBut b o (fun q => by rw [q, hL₀] at e; cases e) (F'.keep b o e), F'.above⟩
  refine ⟨m', hn.sameBut hs₂ hCL, fun h'' hs'' => fin D h'' _ (F₂.change hs'' hCL hC₀) (fun p hp => ?_) fun p hp => (off p hp).2⟩
  have z : h₂.get? p.1 = some p.2 := hs₂.extBut _ _ (N' p hp).2.1 (N' p hp).1
  refine ⟨hs''.extBut _ _ ?_ z, (N' p hp).2⟩
  rcases List.mem_cons.mp hp with rfl | hp
  · exact Ne.symm hCD
  · exact (off p hp).1
end

/-! ### a comprehension's targets and sources -/
open PyProof.Rows.LCg (NsObj lst ns_obj lst_snoc)
noncomputable def Bnd : List Str → List Value → (Str → Option Value) → Prop
  | [], [], _ => True
  | x :: r, v :: q, m => m x = some v ∧ Bnd r q m
  | _, _, _ => False
section
variable {prog : Program} {w : World} {A : Around} {E : Value → Shared → Prop} {s : Shared} {h₀ : Heap} {L C : Addr} {m m₂ : Str → Option Value} {env : Env} {target elt iter : Expr} {ct : Option Expr} {scope : Scope} {cl : List (Str × Addr)} {pos : Pos}
theorem asg_name {x : Str} {px : Pos} {v : Value} {Q : Unit → Shared → Prop} (hkind : scope.kind = .function) (hx : scope.names.lookup x = some .local) (hn : s.heap.Ns C m₂)
    (h : ∀ h' tk m', m' x = some v → (∀ z, z ≠ x → m' z = m₂ z) → h'.Ns C m' → (∀ c o, c ≠ C → s.heap.get? c = some o → h'.get? c = some o) → Q () { s with heap := h', toks := tk }) :
    wpAny (model prog w) A (assign (.Name x px) (compEnvC scope cl C env) v) Q E s :=
  wpAny_assign_Name (wpAny_storeName_local (lookup_relabel_local hx) hn (fun h₃ hn₃ hs₃ => h h₃ _ _ (by simp) (fun z hz => by simp [hz]) hn₃ fun c o hc e => hs₃.extBut c o hc e) (by simp [compEnvC, relabel, hkind]))
theorem asg_row (hkind : scope.kind = .function) : ∀ (ns : List (Str × Pos)) (us : List Value) {m₂ : Str → Option Value} {s : Shared} {Q : Unit → Shared → Prop}, ns.length = us.length → (∀ y ∈ ns, scope.names.lookup y.1 = some .local) → (ns.map (·.1)).Nodup → s.heap.Ns C m₂ →
    (∀ h' tk m', Bnd (ns.map (·.1)) us m' → (∀ z, z ∉ ns.map (·.1) → m' z = m₂ z) → h'.Ns C m' → (∀ c o, c ≠ C → s.heap.get? c = some o → h'.get? c = some o) → Q () { s with heap := h', toks := tk }) →
    wpAny (model prog w) A (assignInOrder (ns.map fun y => assign (.Name y.1 y.2) (compEnvC scope cl C env)) us) Q E s
  | [], [], m₂, s, Q, _, _, _, hn, h => assignInOrder_nil (h s.heap s.toks m₂ trivial (fun _ _ => rfl) hn fun _ _ _ e => e)
  | [], _ :: _, _, _, _, hl, _, _, _, _ => nomatch hl
  | _ :: _, [], _, _, _, hl, _, _, _, _ => nomatch hl
  | y :: ns, u :: us, m₂, s, Q, hl, hx, hd, hn, h => by
    have hd' := List.nodup_cons.mp (show (y.1 :: ns.map (·.1)).Nodup from hd)
    refine assignInOrder_cons (asg_name hkind (hx y List.mem_cons_self) hn fun h₁ tk₁ m₁ e₁ k₁ hn₁ o₁ => ?_)
    refine asg_row hkind ns us (by simpa using hl) (fun z hz => hx z (List.mem_cons_of_mem _ hz)) hd'.2 hn₁ fun h₂ tk₂ m₃ b₂ k₂ hn₂ o₂ => ?_
    refine h h₂ tk₂ m₃ ⟨(k₂ _ hd'.1).trans e₁, b₂⟩ (fun z hz => ?_) hn₂ fun c o hc e => o₂ c o hc (o₁ c o hc e)
    have hz' : z ≠ y.1 ∧ z ∉ ns.map (·.1) := by
      have := show z ∉ y.1 :: ns.map (·.1) from hz
      rw [List.mem_cons, not_or] at this
      exact this
    exact (k₂ z hz'.2).trans (k₁ z hz'.1)
theorem asg_tup {elts : List Expr} {kk : Nat} {tp : Pos} (ns : List (Str × Pos)) {T : Addr} {us : List Value} {Q : Unit → Shared → Prop} (hh : A.handled = none) (hkind : scope.kind = .function)
    (he : ∀ e : Env, assignEach elts e = ns.map fun y => (false, assign (.Name y.1 y.2) e)) (hT : s.heap.IsTuple T us.toArray) (hl : ns.length = us.length) (hx : ∀ y ∈ ns, scope.names.lookup y.1 = some .local) (hd : (ns.map (·.1)).Nodup) (hn : s.heap.Ns C m₂)
    (h : ∀ h' tk m', Bnd (ns.map (·.1)) us m' → h'.Ns C m' → (∀ c o, c ≠ C → s.heap.get? c = some o → h'.get? c = some o) → Q () { s with heap := h', toks := tk }) :
    wpAny (model prog w) A (assign (.Tuple elts kk tp) (compEnvC scope cl C env) (.ref T)) Q E s := by
  refine wpAny_assign_Tuple hh hT (by rw [he, List.length_map, List.size_toArray, hl]) ?_ fun h₁ he₁ => ?_
  · rw [he, List.findIdx?_map]
    simp
  · have hC : C ≠ s.heap.objs.size := Nat.ne_of_lt hn.lt
    rw [he, List.map_map]
    show wpAny _ _ (assignInOrder (ns.map fun y => assign (.Name y.1 y.2) (compEnvC scope cl C env)) us) _ _ _
    refine asg_row hkind ns us hl hx hd (hn.at' fun o e => he₁ _ o hC e) fun h₂ tk₂ m₃ b₂ _ hn₂ o₂ => h h₂ tk₂ m₃ b₂ hn₂ fun c o hc e => o₂ c o hc (he₁ c o (Nat.ne_of_lt (Heap.lt_size e)) e)
end
section
variable {prog : Program} {w : World} {A : Around} {E : Value → Shared → Prop} {s : Shared} {h₀ : Heap} {L : Addr} {m : Str → Option Value} {env : Env} {target elt iter : Expr} {ct : Option Expr} {scope : Scope} {cl : List (Str × Addr)} {pos : Pos} {Fin : Shared → List Value → List (Addr × Obj) → Prop}
/-- how a target takes a value of the source -/
noncomputable def Takes (prog : Program) (w : World) (A : Around) (h₀ : Heap) (target : Expr) (scope : Scope) (cl : List (Str × Addr)) (env : Env) (B : Itm → List (Addr × Obj) → (Str → Option Value) → Prop) (J : List Itm → List Value → List (Addr × Obj) → Prop) : Prop :=
  ∀ a r ys news v C m₂ (s : Shared) (Q : Unit → Shared → Prop) (E : Value → Shared → Prop), J (a :: r) ys news → a.Is v s.heap → (∀ p ∈ news, s.heap.get? p.1 = some p.2) → (∀ b o, h₀.get? b = some o → s.heap.get? b = some o) → s.heap.Ns C m₂ →
      (∀ h' tk m', B a news m' → h'.Ns C m' → (∀ c o, c ≠ C → s.heap.get? c = some o → h'.get? c = some o) → Q () { s with heap := h', toks := tk }) → wpAny (model prog w) A (assign target (compEnvC scope cl C env) v) Q E s
/-- a turn -/
noncomputable def Turns (prog : Program) (w : World) (A : Around) (h₀ : Heap) (L : Addr) (m : Str → Option Value) (elt : Expr) (ct : Option Expr) (scope : Scope) (cl : List (Str × Addr)) (env : Env) (ws : Addr → List (Addr × String)) (B : Itm → List (Addr × Obj) → (Str → Option Value) → Prop) (J : List Itm → List Value → List (Addr × Obj) → Prop) (s : Shared) : Prop :=
  ∀ I a r ys news' C D m₂ h tk E', J (a :: r) ys news' → B a news' m₂ → Fr h₀ L h m → (@Ne Nat C D) → (∀ p ∈ news', p.1 ≠ C ∧ p.1 ≠ D) → AllObj (ws I) (fun its => ∀ oC, NsObj oC m₂ → News h₀ L h (its ++ (C, oC) :: (D, lst ys) :: news') → (∀ q ∈ its, q.1 ≠ C ∧ q.1 ≠ D ∧ ∀ p ∈ news', p.1 ≠ q.1) →
      Tst prog w A ct (compEnvC scope cl C env) E' (fun ok s₃ => if ok = true then wpAny (model prog w) A (eval elt (compEnvC scope cl C env)) (fun y s₄ => CEnd h₀ L m { s with heap := h, toks := tk } its C D ys (J r (ys ++ [y])) s₄) E' s₃
        else CEnd h₀ L m { s with heap := h, toks := tk } its C D ys (J r ys) s₃) { s with heap := h, toks := tk })
theorem src_list {ax : Addr} {vs : List Value} {k : Nat} {news : List (Addr × Obj)} (B : Itm → List (Addr × Obj) → (Str → Option Value) → Prop) (J : List Itm → List Value → List (Addr × Obj) → Prop)
    (hh : A.handled = none) (F : Fr h₀ L s.heap m) (N : News h₀ L s.heap news) (hm : (ax, listOf vs.toArray k) ∈ news) (hsz : vs.length ≤ sizeLine) (asg : Takes prog w A h₀ target scope cl env B J)
    (J0 : J (vs.map .val) [] news) (hJk : ∀ r ys news, J r ys news → (ax, listOf vs.toArray k) ∈ news) (turn : ∀ g, Turns prog w A h₀ L m elt ct scope cl env (fun I => [(I, "list_iterator")]) B J { s with heap := g })
    (fin : ∀ g ys news', J [] ys news' → Fin { s with heap := g } ys news') :
    wpAny (model prog w) A (pyIter (.ref ax)) (fun it s₂ => CompAt prog w A h₀ L m env target elt ct scope cl Fin it s₂) E s := by
  have hax := N _ hm
  have hl : s.heap.IsList ax vs.toArray := ⟨_, hax.1, rfl, k, rfl⟩
  have hlt : ax < s.heap.objs.size := Heap.lt_size hax.1
  have hne : ax ≠ s.heap.objs.size := Nat.ne_of_lt hlt
  refine wpAny_pyIter_list hl ⟨s.heap.objs.size, _, _, _, _, _, _, [(s.heap.objs.size, "list_iterator")], [(ax, listOf vs.toArray k)], vs.map .val, news, B, J, rfl,
    KTurns.ofWalks (Walks.list hh s.heap.objs.size ax hne vs.toArray) fun i v s Q E st q => letGo_listiter st.1 q, fun s' Q E st q => (Walks.list hh s.heap.objs.size ax hne vs.toArray).self 0 s' Q E st q, by simp, by simpa using hsz, fun i v h hp => ⟨.val v, ?_, rfl⟩, fun i h st => ?_,
    fun b hb => ?_, fun b hb => by simpa using hb, fun b hb => ?_, ?_, fun b hb => ?_, fun p hp hI => ?_, ?_, F.push _, fun p hp => ⟨Heap.get?_push_of_some _ (N p hp).1, (N p hp).2⟩, asg, J0, fun r ys news j q hq => ?_, fun a r ys news' C D m₂ h tk E' => turn _ _ a r ys news' C D m₂ h tk E', fun ys news' j => fin _ ys news' j⟩
  · have hp' : vs.toArray[i]? = some v := hp
    simpa using hp'
  · obtain ⟨it, hit, hic, _⟩ := st.1
    exact ⟨[(s.heap.objs.size, it)], ⟨⟨rfl, hic⟩, trivial⟩, fun p hp => by rw [List.mem_singleton.mp hp]; exact hit⟩
  · have hb' : b = s.heap.objs.size := by simpa using hb
    rw [hb']
    exact ⟨List.mem_cons_self .., next_is_new F⟩
  · have hb' : b = s.heap.objs.size ∨ b = ax := by simpa using hb
    rcases hb' with e | e
    · exact .inl (by simp [e])
    · exact .inr (.inl ⟨listOf vs.toArray k, by simp [e]⟩)
  · intro hI
    rcases List.mem_cons.mp hI with e | hI
    · exact absurd F.ns.lt (e ▸ Nat.lt_irrefl _)
    · exact hax.2.1 (List.mem_singleton.mp hI).symm
  · show b < (s.heap.push _).objs.size
    rw [Heap.size_push]
    have hb' : b = s.heap.objs.size ∨ b = ax := by simpa using hb
    rcases hb' with e | e
    · exact e ▸ Nat.lt_succ_self _
    · exact e ▸ Nat.lt_succ_of_lt hlt
  · have hI' : p.1 = s.heap.objs.size := by simpa using hI
    exact absurd (Heap.lt_size (N p hp).1) (hI' ▸ Nat.lt_irrefl _)
  · exact ⟨⟨_, Heap.get?_push_size _ rfl, rfl, rfl⟩, hl.at fun o e => Heap.get?_push_of_some _ e⟩
  · rw [List.mem_singleton.mp hq]; exact hJk _ _ _ j
theorem src_tup {ax : Addr} {vs : List Value} {k : Nat} {news : List (Addr × Obj)} (B : Itm → List (Addr × Obj) → (Str → Option Value) → Prop) (J : List Itm → List Value → List (Addr × Obj) → Prop)
    (hh : A.handled = none) (F : Fr h₀ L s.heap m) (N : News h₀ L s.heap news) (hm : (ax, tupO vs k) ∈ news) (hsz : vs.length ≤ sizeLine) (asg : Takes prog w A h₀ target scope cl env B J)
    (J0 : J (vs.map .val) [] news) (hJk : ∀ r ys news, J r ys news → (ax, tupO vs k) ∈ news) (turn : ∀ g, Turns prog w A h₀ L m elt ct scope cl env (fun I => [(I, "tuple_iterator")]) B J { s with heap := g })
    (fin : ∀ g ys news', J [] ys news' → Fin { s with heap := g } ys news') :
    wpAny (model prog w) A (pyIter (.ref ax)) (fun it s₂ => CompAt prog w A h₀ L m env target elt ct scope cl Fin it s₂) E s := by
  have hax := N _ hm
  have hl : s.heap.IsTuple ax vs.toArray := ⟨_, hax.1, rfl, k, rfl⟩
  have hlt : ax < s.heap.objs.size := Heap.lt_size hax.1
  have hne : ax ≠ s.heap.objs.size := Nat.ne_of_lt hlt
  refine wpAny_pyIter_tuple hl ⟨s.heap.objs.size, _, _, _, _, _, _, [(s.heap.objs.size, "tuple_iterator")], [(ax, tupO vs k)], vs.map .val, news, B, J, rfl,
    KTurns.ofWalks (Walks.tuple hh s.heap.objs.size ax hne vs.toArray) fun i v s Q E st q => letGo_tupleiter st.1 q, fun s' Q E st q => (Walks.tuple hh s.heap.objs.size ax hne vs.toArray).self 0 s' Q E st q, by simp, by simpa using hsz, fun i v h hp => ⟨.val v, ?_, rfl⟩, fun i h st => ?_,
    fun b hb => ?_, fun b hb => by simpa using hb, fun b hb => ?_, ?_, fun b hb => ?_, fun p hp hI => ?_, ?_, F.push _, fun p hp => ⟨Heap.get?_push_of_some _ (N p hp).1, (N p hp).2⟩, asg, J0, fun r ys news j q hq => ?_, fun a r ys news' C D m₂ h tk E' => turn _ _ a r ys news' C D m₂ h tk E', fun ys news' j => fin _ ys news' j⟩
  · have hp' : vs.toArray[i]? = some v := hp
    simpa using hp'
  · obtain ⟨it, hit, hic, _⟩ := st.1
    exact ⟨[(s.heap.objs.size, it)], ⟨⟨rfl, hic⟩, trivial⟩, fun p hp => by rw [List.mem_singleton.mp hp]; exact hit⟩
  · have hb' : b = s.heap.objs.size := by simpa using hb
    rw [hb']
    exact ⟨List.mem_cons_self .., next_is_new F⟩
  · have hb' : b = s.heap.objs.size ∨ b = ax := by simpa using hb
    rcases hb' with e | e
    · exact .inl (by simp [e])
    · exact .inr (.inl ⟨tupO vs k, by simp [e]⟩)
  · intro hI
    rcases List.mem_cons.mp hI with e | hI
    · exact absurd F.ns.lt (e ▸ Nat.lt_irrefl _)
    · exact hax.2.1 (List.mem_singleton.mp hI).symm
  · show b < (s.heap.push _).objs.size
    rw [Heap.size_push]
    have hb' : b = s.heap.objs.size ∨ b = ax := by simpa using hb
    rcases hb' with e | e
    · exact e ▸ Nat.lt_succ_self _
    · exact e ▸ Nat.lt_succ_of_lt hlt
  · have hI' : p.1 = s.heap.objs.size := by simpa using hI
    exact absurd (Heap.lt_size (N p hp).1) (hI' ▸ Nat.lt_irrefl _)
  · exact ⟨⟨_, Heap.get?_push_size _ rfl, rfl, rfl⟩, hl.at fun o e => Heap.get?_push_of_some _ e⟩
  · rw [List.mem_singleton.mp hq]; exact hJk _ _ _ j
end

/-! ### comprehensions over values: the user's form -/
open PyProof.Rows.LCg (NsObj lst ns_obj lst_snoc)
noncomputable def JV (D : List Value → List Value → List (Addr × Obj) → Prop) : List Itm → List Value → List (Addr × Obj) → Prop := fun r ys news => ∃ us : List Value, r = us.map Itm.val ∧ D us ys news
noncomputable def BN (x : Str) : Itm → List (Addr × Obj) → (Str → Option Value) → Prop := fun a _ m => ∀ v, a = .val v → m x = some v
noncomputable def BTup (xs : List Str) : Itm → List (Addr × Obj) → (Str → Option Value) → Prop := fun a news m => ∀ T us n, a = .val (.ref T) → (T, tupO us n) ∈ news → Bnd xs us m
theorem map_val_cons {a : Itm} {r : List Itm} {us : List Value} (e : a :: r = us.map Itm.val) : ∃ v q, us = v :: q ∧ a = .val v ∧ r = q.map Itm.val := by
  cases us with
  | nil => cases e
  | cons v q => obtain ⟨h1, h2⟩ := List.cons.inj e; exact ⟨v, q, rfl, h1, h2⟩
theorem map_val_nil {us : List Value} (e : ([] : List Itm) = us.map Itm.val) : us = [] := by
  cases us with
  | nil => rfl
  | cons v q => cases e
section
variable {prog : Program} {w : World} {A : Around} {E : Value → Shared → Prop} {s : Shared} {h₀ : Heap} {L : Addr} {m : Str → Option Value} {env : Env} {target elt iter : Expr} {ct : Option Expr} {scope : Scope} {cl : List (Str × Addr)} {pos : Pos}
  {D : List Value → List Value → List (Addr × Obj) → Prop}
theorem takes_name {x : Str} {px : Pos} (hkind : scope.kind = .function) (hx : scope.names.lookup x = some .local) : Takes prog w A h₀ (.Name x px) scope cl env (BN x) (JV D) := by
  intro a r ys news v C m₂ s Q E hJ ha _ _ hn h
  obtain ⟨us, e, d⟩ := hJ
  obtain ⟨v', q, rfl, rfl, _⟩ := map_val_cons e
  have e' : v = v' := ha
  subst e'
  exact asg_name hkind hx hn fun h' tk m' hm _ hn' ho => h h' tk m' (fun u e => by cases e; exact hm) hn' ho
theorem takes_tup {elts : List Expr} {kk : Nat} {tp : Pos} (ns : List (Str × Pos)) (hh : A.handled = none) (hkind : scope.kind = .function)
    (he : ∀ e : Env, assignEach elts e = ns.map fun y => (false, assign (.Name y.1 y.2) e)) (hx : ∀ y ∈ ns, scope.names.lookup y.1 = some .local) (hd : (ns.map (·.1)).Nodup)
    (hD : ∀ v r ys news, D (v :: r) ys news → ∃ T us n, v = .ref T ∧ (T, tupO us n) ∈ news ∧ ns.length = us.length) : Takes prog w A h₀ (.Tuple elts kk tp) scope cl env (BTup (ns.map (·.1))) (JV D) := by
  intro a r ys news v C m₂ s Q E hJ ha hN _ hn h
  obtain ⟨us, e, d⟩ := hJ
  obtain ⟨v', q, rfl, rfl, _⟩ := map_val_cons e
  have e' : v = v' := ha
  subst e'
  obtain ⟨T, us, n, rfl, hm, hl⟩ := hD _ _ _ _ d
  refine asg_tup ns hh hkind he ⟨_, hN _ hm, rfl, n, rfl⟩ hl hx hd hn fun h' tk m' hb hn' ho => h h' tk m' (fun T' us' n' e hm' => ?_) hn' ho
  cases e
  have e1 : some (tupO us n) = some (tupO us' n') := (hN (T, tupO us n) hm).symm.trans (hN (T, tupO us' n') hm')
  have e2 : us = us' := by
    have := Option.some.inj e1
    injection this with _ _ e3 _
    injection e3 with e4 _
    simpa using e4
  exact e2 ▸ hb
theorem cend_mono {s₁ s₂ : Shared} {its : List (Addr × Obj)} {C Dd : Addr} {ys : List Value} {P P' : List (Addr × Obj) → Prop} (h : CEnd h₀ L m s₁ its C Dd ys P s₂) (k : ∀ n, P n → P' n) : CEnd h₀ L m s₁ its C Dd ys P' s₂ := by
  obtain ⟨h', tk, n, oC, m', a, b, c, d, e, f⟩ := h
  exact ⟨h', tk, n, oC, m', a, b, c, d, e, k n f⟩
theorem turns_val {knd : String} {B : Itm → List (Addr × Obj) → (Str → Option Value) → Prop}
    (t : ∀ v r ys news' I oI C oC Dd m₂ h tk E', D (v :: r) ys news' → B (.val v) news' m₂ → Fr h₀ L h m → oI.cls = .type knd → NsObj oC m₂ → News h₀ L h ((I, oI) :: (C, oC) :: (Dd, lst ys) :: news') → ((@Ne Nat I C) ∧ (@Ne Nat I Dd) ∧ (@Ne Nat C Dd)) → (∀ p ∈ news', (@Ne Nat p.1 I) ∧ (@Ne Nat p.1 C) ∧ (@Ne Nat p.1 Dd)) →
      Tst prog w A ct (compEnvC scope cl C env) E' (fun ok s₃ => if ok = true then wpAny (model prog w) A (eval elt (compEnvC scope cl C env)) (fun y s₄ => CEnd h₀ L m { s with heap := h, toks := tk } [(I, oI)] C Dd ys (D r (ys ++ [y])) s₄) E' s₃
        else CEnd h₀ L m { s with heap := h, toks := tk } [(I, oI)] C Dd ys (D r ys) s₃) { s with heap := h, toks := tk }) :
    Turns prog w A h₀ L m elt ct scope cl env (fun I => [(I, knd)]) B (JV D) s := by
  intro I a r ys news' C Dd m₂ h tk E' hJ hB F hCD hoff oI hI oC hoC N hits
  obtain ⟨us, e, d⟩ := hJ
  obtain ⟨v, q, rfl, rfl, rfl⟩ := map_val_cons e
  have hI' := hits _ (List.mem_singleton.mpr rfl)
  refine tst_mono (t v q ys news' I oI C oC Dd m₂ h tk E' d hB F hI hoC N ⟨hI'.1, hI'.2.1, hCD⟩ fun p hp => ⟨hI'.2.2 p hp, hoff p hp⟩) fun ok s₃ h₃ => ?_
  cases ok with
  | true =>
    simp only [if_true] at h₃ ⊢
    exact wpAny_mono h₃ (fun y s₄ h₄ => cend_mono h₄ fun n d => ⟨q, rfl, d⟩) fun _ _ e => e
  | false =>
    simp only [Bool.false_eq_true, if_false] at h₃ ⊢
    exact cend_mono h₃ fun n d => ⟨q, rfl, d⟩
/-- a turn's end, from any ledger -/
theorem cend1 {s₁ : Shared} {I C Dd : Addr} {oI oC : Obj} {m₂ : Str → Option Value} {ys : List Value} {P : List (Addr × Obj) → Prop} {h' : Heap} {tk : Nat} {all : List (Addr × Obj)} (F : Fr h₀ L h' m) (N : News h₀ L h' all) (news' : List (Addr × Obj)) (hoC : NsObj oC m₂)
    (hI : (I, oI) ∈ all) (hC : (C, oC) ∈ all) (hD : (Dd, lst ys) ∈ all) (sub : ∀ p ∈ news', p ∈ all) (off : ∀ p ∈ news', (@Ne Nat p.1 I) ∧ (@Ne Nat p.1 C) ∧ (@Ne Nat p.1 Dd)) (r : P news') :
    CEnd h₀ L m s₁ [(I, oI)] C Dd ys P { s₁ with heap := h', toks := tk } := by
  refine ⟨h', tk, news', oC, m₂, rfl, F, hoC, fun p hp => ?_, fun p hp => ⟨fun q hq => by rw [List.mem_singleton.mp hq]; exact (off p hp).1, (off p hp).2⟩, r⟩
  rcases List.mem_cons.mp hp with rfl | hp
  · exact N _ hI
  rcases List.mem_cons.mp hp with rfl | hp
  · exact N _ hC
  rcases List.mem_cons.mp hp with rfl | hp
  · exact N _ hD
  · exact N _ (sub p hp)
end

/-! ### instances -/
noncomputable abbrev ent (w : World) (x : String) (t : Tok) (v : Value) : DictEntry := { hash := PyData.keyHash w.params (Str.ofString x), key := .str (Str.ofString x) t, val := v }
inductive SeenO (w : World) (x d : Addr) (a b c : Value) (l : List (Addr × Obj)) : Prop
  | mk (t1 t2 t3 : Tok) (k : Nat) (z0 : l = [(x, instObj 685 d), (d, dictOf [ent w "letter" t1 a, ent w "number" t2 b, ent w "part" t3 c] k)]) : SeenO w x d a b c l
inductive LetterO (w : World) (x d : Addr) (a b c e f : Value) (l : List (Addr × Obj)) : Prop
  | mk (t1 t2 t3 t4 t5 : Tok) (k : Nat) (z0 : l = [(x, instObj 130 d), (d, dictOf [ent w "uid" t1 a, ent w "octets" t2 b, ent w "flags" t3 c, ent w "instant" t4 e, ent w "modseq" t5 f] k)]) : LetterO w x d a b c e f l
noncomputable def Over (l : List (Addr × Obj)) (d : Addr) : Prop := ∀ q ∈ l, @LT.lt Nat _ q.1 d
theorem u_new {Z : Addr → Addr → List (Addr × Obj) → Prop} {news : List (Addr × Obj)} (P : PR) (h : ∀ x d l, Z x d l → Over news d → @LT.lt Nat _ d x → P (.ref x) (l ++ news)) (r : Value) (n : List (Addr × Obj)) (e : ∃ x d l, r = .ref x ∧ n = l ++ news ∧ Z x d l ∧ Over news d ∧ @LT.lt Nat _ d x) : P r n := by
  obtain ⟨x, d, l, rfl, rfl, a, b, c⟩ := e
  exact h x d l a b c

/-- the law's five flags -/
noncomputable def FLAGS : List Str := [Str.ofString "\\Seen", Str.ofString "\\Draft", Str.ofString "\\Answered", Str.ofString "work", Str.ofString "Work"]
noncomputable def SYS : List Str := [Str.ofString "\\Seen", Str.ofString "\\Answered", Str.ofString "\\Flagged", Str.ofString "\\Deleted", Str.ofString "\\Draft"]
/-- upper at even places, lower at odd -/
noncomputable def mixAt (x : Str) : List Str := (x.cps.toList.zipIdx).map fun (c, i) => if i % 2 = 0 then Txt.upper ⟨#[c]⟩ else Txt.lower ⟨#[c]⟩
noncomputable def mixed (x : Str) : Str := ⟨((mixAt x).flatMap fun s => s.cps.toList).toArray⟩
noncomputable def spelled (x : Str) (k : Nat) : Str := match k with
  | 0 => x
  | 1 => Txt.upper x
  | 2 => Txt.lower x
  | _ => mixed x
noncomputable def progFlagName (x : Str) : Str := match SYS.find? fun n => Txt.lower x == Txt.lower n with
  | some n => n
  | none => x
noncomputable def progFlag (x : Str) (fl : List Str) : Bool := fl.any (· == progFlagName x)
noncomputable def lawFlag (x : Str) (fl : List Str) : Bool := if x.cps.toList.head? = some 92 then (fl.map Txt.lower).contains (Txt.lower x) else fl.contains x
noncomputable def flagsOf (mask : Nat) : List Str := (FLAGS.zipIdx).filterMap fun (x, i) => if mask / 2 ^ i % 2 = 1 then some x else none
theorem flag_agree : ∀ n ∈ FLAGS, ∀ k : Fin 4, ∀ mask : Fin 32, progFlag (spelled n k) (flagsOf mask) = lawFlag (spelled n k) (flagsOf mask) := by
  decide +kernel
noncomputable def KW : List Str := [Str.ofString "work", Str.ofString "Work", Str.ofString "WORK", Str.ofString "WoRk"]
noncomputable def SPELL : List Str := KW ++ (FLAGS.take 3).flatMap fun n => [n, Txt.upper n, Txt.lower n, mixed n]
theorem spelled_in : ∀ n ∈ FLAGS, ∀ k : Fin 4, spelled n k ∈ SPELL := by decide +kernel
theorem flag_of : ∀ x ∈ SPELL, (Txt.lower x = Txt.lower (Str.ofString "\\Seen") → progFlagName x = Str.ofString "\\Seen") ∧
    (Txt.lower x = Txt.lower (Str.ofString "\\Answered") → progFlagName x = Str.ofString "\\Answered") ∧
    (Txt.lower x = Txt.lower (Str.ofString "\\Draft") → progFlagName x = Str.ofString "\\Draft") ∧ Txt.lower x ≠ Txt.lower (Str.ofString "\\Flagged") ∧ Txt.lower x ≠ Txt.lower (Str.ofString "\\Deleted") ∧
    (Txt.lower x ≠ Txt.lower (Str.ofString "\\Seen") → Txt.lower x ≠ Txt.lower (Str.ofString "\\Answered") → Txt.lower x ≠ Txt.lower (Str.ofString "\\Draft") → x ∈ KW ∧ progFlagName x = x) := by decide +kernel

/-! ### rows: letters and what a search sees of them, held by a ledger -/
inductive LetterIn (w : World) (news : List (Addr × Obj)) (lx : Addr) (uid : Int) (flags : List Str) : Prop
  | mk (d fx : Addr) (t0 t1 t2 t3 t4 t5 : Tok) (ov iv mv : Value) (fvs : List Value) (k n : Nat) (z0 : (lx, instObj 130 d) ∈ news) (z1 : (d, dictOf [ent w "uid" t1 (.int uid t0), ent w "octets" t2 ov, ent w "flags" t3 (.ref fx), ent w "instant" t4 iv, ent w "modseq" t5 mv] k) ∈ news) (z2 : (fx, tupO fvs n) ∈ news) (z3 : StrsAre fvs flags) : LetterIn w news lx uid flags
inductive SeenIn (w : World) (news : List (Addr × Obj)) (v : Value) (lx : Addr) (num : Int) : Prop
  | mk (x d : Addr) (t0 t1 t2 t3 : Tok) (k : Nat) (z0 : v = .ref x) (z1 : (x, instObj 685 d) ∈ news) (z2 : (d, dictOf [ent w "letter" t1 (.ref lx), ent w "number" t2 (.int num t0), ent w "part" t3 .none] k) ∈ news) : SeenIn w news v lx num
theorem LetterIn.mono {w : World} {news news' : List (Addr × Obj)} {lx : Addr} {uid : Int} {flags : List Str} (h : LetterIn w news lx uid flags) (hs : ∀ q ∈ news, q ∈ news') : LetterIn w news' lx uid flags := by
  obtain ⟨d, fx, t0, t1, t2, t3, t4, t5, ov, iv, mv, fvs, k, n, h1, h2, h3, h4⟩ := h
  exact ⟨d, fx, t0, t1, t2, t3, t4, t5, ov, iv, mv, fvs, k, n, hs _ h1, hs _ h2, hs _ h3, h4⟩
theorem SeenIn.mono {w : World} {news news' : List (Addr × Obj)} {v : Value} {lx : Addr} {num : Int} (h : SeenIn w news v lx num) (hs : ∀ q ∈ news, q ∈ news') : SeenIn w news' v lx num := by
  obtain ⟨x, d, t0, t1, t2, t3, k, h0, h1, h2⟩ := h
  exact ⟨x, d, t0, t1, t2, t3, k, h0, hs _ h1, hs _ h2⟩
inductive RowIn (w : World) (news : List (Addr × Obj)) (v : Value) (num uid : Int) (fl : List Str) : Prop
  | mk (lx) (z0 : SeenIn w news v lx num) (z1 : LetterIn w news lx uid fl) : RowIn w news v num uid fl
theorem RowIn.mono {w : World} {news news' : List (Addr × Obj)} {v : Value} {num uid : Int} {fl : List Str} (h : RowIn w news v num uid fl) (hs : ∀ q ∈ news, q ∈ news') : RowIn w news' v num uid fl := by
  obtain ⟨lx, h1, h2⟩ := h
  exact ⟨lx, h1.mono hs, h2.mono hs⟩
/-- a leaf's answer -/
noncomputable def leafP (t : T) (num uid : Int) (fl : List Str) (g1 g2 : Int) : Bool := match t with
  | .flag x => progFlag x fl
  | .seq ps => progHas ps num g1
  | .uid ps => progHas ps uid g2
  | _ => false

/-! ### trees: depth, spine, the program's reading -/
noncomputable def T.depth : T → Nat
  | .nt a => a.depth + 1
  | .an a b => max a.depth b.depth + 1
  | .or a b => max a.depth b.depth + 1
  | _ => 0
noncomputable def T.ok : T → Prop
  | .flag x => x ∈ SPELL
  | .seq ps => ∀ q ∈ ps, 0 ≤ q.1 ∧ 0 ≤ q.2
  | .uid ps => ∀ q ∈ ps, 0 ≤ q.1 ∧ 0 ≤ q.2
  | .nt a => a.ok
  | .an a b => a.ok ∧ b.ok
  | .or a b => a.ok ∧ b.ok
  | .all => True
noncomputable def T.leaf : T → Prop
  | .flag _ => True
  | .seq _ => True
  | .uid _ => True
  | _ => False
noncomputable def evalT (P : T → Bool) : T → Bool
  | .all => true
  | .nt a => !evalT P a
  | .an a b => evalT P a && evalT P b
  | .or a b => evalT P a || evalT P b
  | t => P t
noncomputable def isAnd : T → Prop
  | .an _ _ => True
  | _ => False
/-- the tree's first word -/
noncomputable def T.word : T → Str
  | .all => Str.ofString "all"
  | .flag _ => Str.ofString "flag"
  | .seq _ => Str.ofString "seq"
  | .uid _ => Str.ofString "uid"
  | .nt _ => Str.ofString "not"
  | .an _ _ => Str.ofString "and"
  | .or _ _ => Str.ofString "or"
inductive HeadAt (news : List (Addr × Obj)) (v : Value) (x : Str) : Prop
  | mk (a : Addr) (r : List Value) (n : Nat) (u : Tok) (z0 : v = .ref a) (z1 : (a, tupO (.str x u :: r) n) ∈ news) : HeadAt news v x
theorem dat_head {news : List (Addr × Obj)} {v : Value} {t : T} (h : DatIn news v t.dat) : HeadAt news v t.word := by
  cases t <;> obtain ⟨a, vs, n, rfl, hm, hr⟩ := dat_tup h <;> obtain ⟨x, r, rfl, hx, _⟩ := dat_cons hr <;> obtain ⟨u, rfl⟩ := dat_str hx <;> exact ⟨a, r, n, u, rfl, hm⟩

section
variable {prog : Program} {w : World} {A : Around} {E : Value → Shared → Prop} {s : Shared} {h₀ : Heap} {L a : Addr} {news : List (Addr × Obj)} {v : Value} {r : List Value} {n : Nat} {u : Tok} {Q : Value → Shared → Prop}
theorem sub_zero {value slice : Expr} (N : News h₀ L s.heap news) (hm : (a, tupO (v :: r) n) ∈ news) (h : Q v s)
    (hs : subscripted slice false (.ref a) (.int 0 u) = operate [.ref a, .int 0 u] (getItem (.ref a) (.int 0 u)) := by with_unfolding_all rfl) :
    wpAny (model prog w) A (subscriptTail value slice (.ref a) (.int 0 u)) Q E s :=
  item_tupleT (j := 0) (News.isTup N hm) (by decide) (by decide) (by
    show seqIndex? 0 (r.length + 1) = some 0
    unfold seqIndex?
    simp) rfl h hs
theorem eq_word_no {x y : Str} {t u : Tok} (hne : ¬ x = y) (h : Q (.bool false) s) : wpAny (model prog w) A (compareOp .Eq (.str x t) (.str y u)) Q E s := by
  refine PyProof.Rows.eq_str ?_
  rw [show (x == y) = false from beq_false_of_ne hne]
  exact h
theorem ne_word_no {x y : Str} {t u : Tok} (hne : ¬ x = y) (h : Q (.bool true) s) : wpAny (model prog w) A (compareOp .NotEq (.str x t) (.str y u)) Q E s := by
  refine PyProof.Rows.ne_str ?_
  rw [show (x != y) = true from bne_iff_ne.mpr hne]
  exact h
end
theorem word_ne_and {a : T} (h : ¬ isAnd a) : ¬ a.word = Str.ofString "and" := by
  cases a with
  | an a b => exact absurd trivial h
  | all => show ¬ Str.ofString "all" = _; decide
  | flag => show ¬ Str.ofString "flag" = _; decide
  | seq => show ¬ Str.ofString "seq" = _; decide
  | uid => show ¬ Str.ofString "uid" = _; decide
  | nt => show ¬ Str.ofString "not" = _; decide
  | or => show ¬ Str.ofString "or" = _; decide
theorem sub_cons {α : Type} {x : α} {l l' : List α} (h : x ∈ l') (t : ∀ q ∈ l, q ∈ l') : ∀ q ∈ x :: l, q ∈ l' := fun q hq => by
  rcases List.mem_cons.mp hq with rfl | hq
  · exact h
  · exact t q hq

theorem sub_trans {α : Type} {a b c : List α} (h : ∀ q ∈ a, q ∈ b) (k : ∀ q ∈ b, q ∈ c) : ∀ q ∈ a, q ∈ c := fun q hq => k q (h q hq)
section
variable (w : World) (p : Program) (loose : List Str) (mean : ExcName → Option Value) (mg mb : Str → Option Value) (P : T → Bool) (f : Addr) (base : List (Addr × Obj))
noncomputable def HoldsAt (k : Nat) : Prop := ∀ t : T, t.leaf → t.ok → ∀ news tv, (∀ q ∈ base, q ∈ news) → DatIn news tv t.dat → Ct w p loose mean mg mb f [tv] news k (fun r n => r = .bool (P t) ∧ n = news)
noncomputable def DecAt (t : T) (k : Nat) : Prop := ∀ news tv, (∀ q ∈ base, q ∈ news) → DatIn news tv t.dat → Ct w p loose mean mg mb 588 [tv, .ref f] news k (fun r n => r = .bool (evalT P t) ∧ n = news)
end
section
variable {w : World} {p : Program} {loose : List Str} {mean : ExcName → Option Value} {mg mb : Str → Option Value} {P : T → Bool} {f : Addr} {base : List (Addr × Obj)} {t : T} {k : Nat} {news : List (Addr × Obj)} {tv : Value}
theorem HoldsAt.use (h : HoldsAt w p loose mean mg mb P f base k) (ht : t.leaf) (ho : t.ok) (hb : ∀ q ∈ base, q ∈ news) (hd : DatIn news tv t.dat) : Ct w p loose mean mg mb f [tv] news k (fun r n => r = .bool (P t) ∧ n = news) := h t ht ho news tv hb hd
theorem DecAt.use (h : DecAt w p loose mean mg mb P f base t k) (hb : ∀ q ∈ base, q ∈ news) (hd : DatIn news tv t.dat) : Ct w p loose mean mg mb 588 [tv, .ref f] news k (fun r n => r = .bool (evalT P t) ∧ n = news) := h news tv hb hd
end
theorem leaf_words {t : T} (h : t.leaf) : (¬ t.word = Str.ofString "all") ∧ (¬ t.word = Str.ofString "not") ∧ (¬ t.word = Str.ofString "or") ∧ (¬ t.word = Str.ofString "and") := by
  cases t with
  | flag => show (¬ Str.ofString "flag" = _) ∧ (¬ Str.ofString "flag" = _) ∧ (¬ Str.ofString "flag" = _) ∧ (¬ Str.ofString "flag" = _); decide
  | seq => show (¬ Str.ofString "seq" = _) ∧ (¬ Str.ofString "seq" = _) ∧ (¬ Str.ofString "seq" = _) ∧ (¬ Str.ofString "seq" = _); decide
  | uid => show (¬ Str.ofString "uid" = _) ∧ (¬ Str.ofString "uid" = _) ∧ (¬ Str.ofString "uid" = _) ∧ (¬ Str.ofString "uid" = _); decide
  | all => exact h.elim
  | nt => exact h.elim
  | an => exact h.elim
  | or => exact h.elim
theorem evalT_leaf {P : T → Bool} {t : T} (h : t.leaf) : evalT P t = P t := by
  cases t <;> first | rfl | exact h.elim
theorem Ct.mono {w : World} {p : Program} {loose : List Str} {mean : ExcName → Option Value} {mg mb : Str → Option Value} {f : Addr} {vs : List Value} {news : List (Addr × Obj)} {k : Nat} {R R' : Value → List (Addr × Obj) → Prop}
    (h : Ct w p loose mean mg mb f vs news k R) (i : ∀ r n, R r n → R' r n) : Ct w p loose mean mg mb f vs news k R' :=
  fun dp un gd cn cs a ccd cl outer A₀ base h₀ L m s Q E B F X N T hck hd hu hret => h dp un gd cn cs a ccd cl outer A₀ base h₀ L m s Q E B F X N T hck hd hu fun r n h' tk x => hret r n h' tk (i r n x)
theorem Ct.need {w : World} {p : Program} {loose : List Str} {mean : ExcName → Option Value} {mg mb : Str → Option Value} {f : Addr} {vs : List Value} {news : List (Addr × Obj)} {k k' : Nat} {R : Value → List (Addr × Obj) → Prop}
    (h : Ct w p loose mean mg mb f vs news k R) (i : k ≤ k') : Ct w p loose mean mg mb f vs news k' R :=
  fun dp un gd cn cs a ccd cl outer A₀ base h₀ L m s Q E B F X N T hck hd hu hret => h dp un gd cn cs a ccd cl outer A₀ base h₀ L m s Q E B F X N T hck (by omega) (by omega) hret
section
variable (w : World) (p : Program) (loose : List Str) (mean : ExcName → Option Value) (mg mb : Str → Option Value)
noncomputable def RowAt (t : T) (ts : List T) : Prop := ∀ news tv, DatIn news tv t.dat → Ct w p loose mean mg mb 581 [tv] news 1 (fun r n => ∃ D vs k, r = .ref D ∧ n = (D, listOf vs.toArray k) :: news ∧ DatAll news vs (ts.map T.dat))
end
theorem RowAt.use {w : World} {p : Program} {loose : List Str} {mean : ExcName → Option Value} {mg mb : Str → Option Value} {t : T} {ts : List T} {news : List (Addr × Obj)} {tv : Value} (h : RowAt w p loose mean mg mb t ts) (hd : DatIn news tv t.dat) :
    Ct w p loose mean mg mb 581 [tv] news 1 (fun r n => ∃ D vs k, r = .ref D ∧ n = (D, listOf vs.toArray k) :: news ∧ DatAll news vs (ts.map T.dat)) := h news tv hd
theorem allLt_mem {d : Nat} : ∀ {l : List (Addr × Obj)}, AllLt d l → ∀ p ∈ l, @LT.lt Nat _ p.1 d
  | [], _, _, h => nomatch h
  | _ :: _, x, p, h => by
    rcases List.mem_cons.mp h with rfl | h
    · exact x.1
    · exact allLt_mem x.2 p h

/-! ### a lambda's contract from a walk of its body -/
section
variable {w : World} {p : Program} {loose : List Str} {mean : ExcName → Option Value} {mg mb : Str → Option Value} {f : Addr} {vs : List Value} {news : List (Addr × Obj)} {k : Nat} {R : Value → List (Addr × Obj) → Prop}
  {name qual : Str} {params : Arguments} {body : Expr} {scope : Scope} {cl : List (Str × Addr)} {pm ctv : Value} {c' : Addr} {oc : Obj} {ws : Array Value} {t : Tok}
theorem ct_of_lam {binds : List (Str × Value)} (hm : (f, kla_obj name qual params body scope cl pm c' ctv) ∈ news) (hc : (c', oc) ∈ news) (hd : oc.data = .fields ws) (hv : ws[1]? = some (.str qual t))
    (hbind : bindArgs (kla_fn name qual params body scope cl pm (.ref c') ctv) ⟨vs, []⟩ = pure binds) (hloc : ∀ y ∈ binds, scope.names.lookup y.1 = some .local)
    (h : ∀ (dp un : Nat) (gd : Option (List Code)) (outer : List Env) (A₀ : Around) (base g : Heap) (L : Addr) (s : Shared),
      Below A₀ base outer g → Fr g L s.heap (mOf binds.reverse) → (heapK w.params).In g → News g L s.heap news → Top p loose mean mg mb g → dp + k < 1000 → un + 8 * k + 400 < 9900 →
      wpAny (model (OpenRow.toRowW (OpenLaw.row PySem.Challenge.rw_pq0955_01)).prog w) (ktrTop dp un gd qual scope L f (.ref c') cl outer) (eval body (envX qual scope L f (.ref c') cl)) (fun v s' => Back g L s R (.ret v) s') (fun _ _ => False) s)
    (hco : scope.isCoroutine = false) (hgen : scope.isGenerator = false) (hk : scope.kind = .function) (hcell : ∀ x ∈ scope.names, x.2 ≠ .cell) : Ct w p loose mean mg mb f vs news (k + 1) R := by
  intro dp un gd cn cs a ccd cl' outer A₀ base h₀ L m s Q E B F X N T hck hd' hu hret
  refine wpAny_call (kla_code B F X N T rfl rfl hck hm (codeRec_news N hc hd hv) (by show dp < 1000; omega) hbind hloc (fun g L' h₁ FG F' N' B' X' T' => ?_) hco hgen hk hcell)
  rw [mOf_eq] at F'
  refine wpAny_mono (h (dp + 1) (un + 3) gd (envX cn cs L a ccd cl' :: outer) _ base g L' _ B' F' X' N' T' (by omega) (by omega)) (fun v s' hb => ?_) fun _ _ x => x.elim
  obtain ⟨h', tk', m', news', rfl, F₁, N₁, r⟩ := hb
  exact ⟨L', m', news', F₁, N₁, fun F₂ N₂ => hret _ news' h' tk' r F₂ N₂⟩
end

/-! ### rows as a whole -/
noncomputable def RowsIn (w : World) (news : List (Addr × Obj)) : List Value → List (Int × Int × List Str) → Prop
  | [], [] => True
  | v :: vs, r :: rs => RowIn w news v r.1 r.2.1 r.2.2 ∧ RowsIn w news vs rs
  | _, _ => False
theorem RowsIn.mono {w : World} {news news' : List (Addr × Obj)} (hs : ∀ q ∈ news, q ∈ news') : ∀ {vs : List Value} {rs : List (Int × Int × List Str)}, RowsIn w news vs rs → RowsIn w news' vs rs
  | [], [], _ => trivial
  | [], _ :: _, h => h
  | _ :: _, [], h => h
  | v :: vs, r :: rs, h => ⟨h.1.mono hs, h.2.mono hs⟩
theorem RowsIn.app {w : World} {news : List (Addr × Obj)} : ∀ {vs : List Value} {rs : List (Int × Int × List Str)} {vs' : List Value} {rs' : List (Int × Int × List Str)}, RowsIn w news vs rs → RowsIn w news vs' rs' → RowsIn w news (vs ++ vs') (rs ++ rs')
  | [], [], _, _, _, h => h
  | [], _ :: _, _, _, h, _ => h.elim
  | _ :: _, [], _, _, h, _ => h.elim
  | v :: vs, r :: rs, _, _, h, h' => ⟨h.1, h.2.app h'⟩
theorem RowsIn.len {w : World} {news : List (Addr × Obj)} : ∀ {vs : List Value} {rs : List (Int × Int × List Str)}, RowsIn w news vs rs → vs.length = rs.length
  | [], [], _ => rfl
  | [], _ :: _, h => h.elim
  | _ :: _, [], h => h.elim
  | _ :: vs, _ :: rs, h => congrArg (· + 1) h.2.len
theorem RowsIn.snoc {w : World} {news : List (Addr × Obj)} {vs : List Value} {v : Value} : ∀ {rs : List (Int × Int × List Str)}, RowsIn w news (vs ++ [v]) rs → ∃ rs' r, rs = rs' ++ [r] ∧ RowsIn w news vs rs' ∧ RowIn w news v r.1 r.2.1 r.2.2 := by
  induction vs with
  | nil =>
    intro rs h
    match rs, h with
    | [r], h => exact ⟨[], r, rfl, trivial, h.1⟩
    | r :: r2 :: rs, h => exact h.2.elim
  | cons u vs ih =>
    intro rs h
    match rs, h with
    | r :: rs, h =>
      obtain ⟨rs', r', rfl, h1, h2⟩ := ih h.2
      exact ⟨r :: rs', r', rfl, ⟨h.1, h1⟩, h2⟩
noncomputable def ctxOf (rs : List (Int × Int × List Str)) : Int × Int := match rs.getLast? with
  | some r => (r.1, r.2.1)
  | none => (0, 0)
theorem ctxOf_snoc {rs : List (Int × Int × List Str)} {r : Int × Int × List Str} : ctxOf (rs ++ [r]) = (r.1, r.2.1) := by
  unfold ctxOf; rw [List.getLast?_concat]
section
variable {prog : Program} {w : World} {A : Around} {E : Value → Shared → Prop} {s : Shared} {h₀ : Heap} {L a b : Addr} {news : List (Addr × Obj)} {xs : List Value} {ka kb : Nat} {Q : Value → Shared → Prop}
theorem ne_nil (N : News h₀ L s.heap news) (ma : (a, listOf xs.toArray ka) ∈ news) (mb : (b, listOf ([] : List Value).toArray kb) ∈ news) (hu : A.units < cLine) (h : Q (.bool (!xs.isEmpty)) s) :
    wpAny (model prog w) A (compareOp .NotEq (.ref a) (.ref b)) Q E s := by
  have hl : s.heap.IsList a xs.toArray := ⟨_, (N _ ma).1, rfl, ka, rfl⟩
  have hb : s.heap.IsList b ([] : List Value).toArray := ⟨_, (N _ mb).1, rfl, kb, rfl⟩
  refine cmp_ofNotEq ?_
  cases xs with
  | nil => exact PySem.SeqAt.RcNeAt.lists (e := fun _ => true) hl hb rfl hu (fun j h1 _ => absurd h1 (Nat.not_lt_zero _)) _ _ _ _ h
  | cons x xs => exact PySem.SeqAt.RcNeAt.lists_lengths hl hb (by simp) hu _ _ _ _ h
theorem ne_nil_snoc {v : Value} (N : News h₀ L s.heap news) (ma : (a, listOf (xs ++ [v]).toArray ka) ∈ news) (mb : (b, listOf ([] : List Value).toArray kb) ∈ news) (hu : A.units < cLine) (h : Q (.bool true) s) :
    wpAny (model prog w) A (compareOp .NotEq (.ref a) (.ref b)) Q E s := ne_nil N ma mb hu (by rw [show (!(xs ++ [v]).isEmpty) = true by simp]; exact h)
theorem sub_last {value slice : Expr} {vs : List Value} {v : Value} {k : Nat} {u : Tok} (N : News h₀ L s.heap news) (hm : (a, listOf (vs ++ [v]).toArray k) ∈ news) (h : Q v s)
    (hs : subscripted slice false (.ref a) (.int (-1) u) = operate [.ref a, .int (-1) u] (getItem (.ref a) (.int (-1) u)) := by with_unfolding_all rfl) :
    wpAny (model prog w) A (subscriptTail value slice (.ref a) (.int (-1) u)) Q E s :=
  kde_neg (j := vs.length) ⟨_, (N _ hm).1, rfl, k, rfl⟩ (by decide) (by decide) (by
    rw [seqIndex_neg (by decide) (by rw [List.length_append, List.length_singleton]; omega), List.length_append, List.length_singleton]
    congr 1
    omega) (by simp) h hs
end

/-- what is new lies apart from what stood -/
noncomputable def Apart (ex news : List (Addr × Obj)) : Prop := ∀ q ∈ ex, ∀ r ∈ news, @Ne Nat q.1 r.1
theorem u_rows {Z : List Value → List (Addr × Obj) → Prop} {news : List (Addr × Obj)} (P : PR) (h : ∀ D vs k ex, Apart ((D, listOf vs.toArray k) :: ex) news → Z vs ex → P (.ref D) ((D, listOf vs.toArray k) :: (ex ++ news))) (r : Value) (n : List (Addr × Obj))
    (e : ∃ (D : Addr) (vs : List Value) (k : Nat) (ex : List (Addr × Obj)), r = .ref D ∧ n = (D, listOf vs.toArray k) :: (ex ++ news) ∧ Apart ((D, listOf vs.toArray k) :: ex) news ∧ Z vs ex) : P r n := by
  obtain ⟨D, vs, k, ex, rfl, rfl, a, b⟩ := e
  exact h D vs k ex a b
theorem u_ranges {Z : List Value → List (Addr × Obj) → Prop} {news : List (Addr × Obj)} (P : PR) (h : ∀ T tvs k ex, Apart ((T, tupO tvs k) :: ex) news → Z tvs ex → P (.ref T) ((T, tupO tvs k) :: (ex ++ news))) (r : Value) (n : List (Addr × Obj))
    (e : ∃ (T : Addr) (tvs : List Value) (k : Nat) (ex : List (Addr × Obj)), r = .ref T ∧ n = (T, tupO tvs k) :: (ex ++ news) ∧ Apart ((T, tupO tvs k) :: ex) news ∧ Z tvs ex) : P r n := by
  obtain ⟨T, tvs, k, ex, rfl, rfl, a, b⟩ := e
  exact h T tvs k ex a b
theorem Apart.nil {news : List (Addr × Obj)} : Apart [] news := fun _ h => nomatch h
theorem Apart.cons {x : Addr} {o : Obj} {ex news : List (Addr × Obj)} (h : ∀ r ∈ news, @Ne Nat x r.1) (t : Apart ex news) : Apart ((x, o) :: ex) news := fun q hq r hr => by
  rcases List.mem_cons.mp hq with rfl | hq
  · exact h r hr
  · exact t q hq r hr
noncomputable def uidRow (r : Int × Int × List Str) : Int × Int × List Str := (r.2.1, r.2.1, r.2.2)
theorem sub_app {α : Type} {ex news : List α} : ∀ q ∈ news, q ∈ ex ++ news := fun q hq => List.mem_append_right _ hq
inductive ListR (news : List (Addr × Obj)) (P : List Value → List (Addr × Obj) → Prop) (r : Value) (n : List (Addr × Obj)) : Prop
  | mk (D : Addr) (vs : List Value) (k : Nat) (ex : List (Addr × Obj)) (z0 : r = .ref D) (z1 : n = (D, listOf vs.toArray k) :: (ex ++ news)) (z2 : Apart ((D, listOf vs.toArray k) :: ex) news) (z3 : P vs (ex ++ news)) : ListR news P r n
theorem u_list {news : List (Addr × Obj)} {Z : List Value → List (Addr × Obj) → Prop} (P : PR) (h : ∀ D vs k ex, Apart ((D, listOf vs.toArray k) :: ex) news → Z vs (ex ++ news) → P (.ref D) ((D, listOf vs.toArray k) :: (ex ++ news))) (r : Value) (n : List (Addr × Obj)) (e : ListR news Z r n) : P r n := by
  obtain ⟨D, vs, k, ex, rfl, rfl, a, b⟩ := e
  exact h D vs k ex a b
theorem seen_row {w : World} {news : List (Addr × Obj)} {x d lx : Addr} {num uid : Int} {fl : List Str} {t : Tok} {l : List (Addr × Obj)} (h : SeenO w x d (.ref lx) (.int num t) .none l) (hs : ∀ q ∈ l, q ∈ news) (hL : LetterIn w news lx uid fl) : RowIn w news (.ref x) num uid fl := by
  obtain ⟨t1, t2, t3, k, rfl⟩ := h
  exact ⟨lx, ⟨x, d, t, t1, t2, t3, k, rfl, hs _ (List.mem_cons_self ..), hs _ (List.mem_cons_of_mem _ (List.mem_cons_self ..))⟩, hL⟩
theorem seen_apart {w : World} {all : List (Addr × Obj)} {x d : Addr} {a b c : Value} {l : List (Addr × Obj)} (h : SeenO w x d a b c l) (ho : Over all d) (hl : @LT.lt Nat _ d x) : Apart l all := by
  obtain ⟨t1, t2, t3, k, rfl⟩ := h
  exact Apart.cons (fun r hr => Nat.ne_of_gt (Nat.lt_trans (ho r hr) hl)) (Apart.cons (fun r hr => Nat.ne_of_gt (ho r hr)) Apart.nil)
theorem Apart.app {e1 e2 news : List (Addr × Obj)} (h1 : Apart e1 news) (h2 : Apart e2 news) : Apart (e1 ++ e2) news := fun q hq r hr => by
  rcases List.mem_append.mp hq with h | h
  · exact h1 q h r hr
  · exact h2 q h r hr
theorem Apart.sub {ex all news : List (Addr × Obj)} (h : Apart ex all) (s : ∀ q ∈ news, q ∈ all) : Apart ex news := fun q hq r hr => h q hq r (s r hr)
/-- a turn's end that made new things -/
theorem cend_new {h₀ : Heap} {L : Addr} {m : Str → Option Value} {s₁ : Shared} {I C Dd : Addr} {oI oC : Obj} {m₂ : Str → Option Value} {ys : List Value} {P : List (Addr × Obj) → Prop} {h' : Heap} {tk : Nat} {l n : List (Addr × Obj)}
    (F : Fr h₀ L h' m) (N : News h₀ L h' (l ++ (I, oI) :: (C, oC) :: (Dd, LCg.lst ys) :: n)) (hoC : LCg.NsObj oC m₂) (hap : Apart l ((I, oI) :: (C, oC) :: (Dd, LCg.lst ys) :: n)) (hoff : ∀ p ∈ n, (@Ne Nat p.1 I) ∧ (@Ne Nat p.1 C) ∧ (@Ne Nat p.1 Dd)) (r : P (l ++ n)) :
    CEnd h₀ L m s₁ [(I, oI)] C Dd ys P { s₁ with heap := h', toks := tk } := by
  refine cend1 F N (l ++ n) hoC (List.mem_append_right _ (List.mem_cons_self ..)) (List.mem_append_right _ (List.mem_cons_of_mem _ (List.mem_cons_self ..))) (List.mem_append_right _ (List.mem_cons_of_mem _ (List.mem_cons_of_mem _ (List.mem_cons_self ..)))) (fun p hp => ?_) (fun p hp => ?_) r
  · rcases List.mem_append.mp hp with h | h
    · exact List.mem_append_left _ h
    · exact List.mem_append_right _ (List.mem_cons_of_mem _ (List.mem_cons_of_mem _ (List.mem_cons_of_mem _ h)))
  · rcases List.mem_append.mp hp with h | h
    · exact ⟨hap p h _ (List.mem_cons_self ..), hap p h _ (List.mem_cons_of_mem _ (List.mem_cons_self ..)), hap p h _ (List.mem_cons_of_mem _ (List.mem_cons_of_mem _ (List.mem_cons_self ..)))⟩
    · exact hoff p h
noncomputable def foundIn (P : Int × Int × List Str → Bool) (rs : List (Int × Int × List Str)) : List Int := (rs.filter P).map (·.1)
theorem mem_perm {α : Type} {S X : List α} {a b c : α} : ∀ q ∈ S ++ (a :: b :: c :: X), q ∈ a :: b :: c :: (S ++ X) := by
  intro q hq
  simp only [List.mem_append, List.mem_cons] at hq ⊢
  rcases hq with h | h | h | h | h <;> simp [h]

/-! ### a loop over a made list, by what holds between its turns; the ledger may change -/
section
variable {prog : Program} {w : World} {A : Around} {E : Value → Shared → Prop} {s : Shared} {env : Env} {h₀ : Heap} {target : Expr} {body : List Stmt} {Q : Flow → Shared → Prop}
theorem list_inv {ax : Addr} {vs : List Value} {k : Nat} {m₀ : Str → Option Value} {news : List (Addr × Obj)} (l : List (Str × Value)) (D : List Value → List (Addr × Obj) → Prop)
    (hh : A.handled = none) (F : Fr h₀ env.locals s.heap m₀) (N : News h₀ env.locals s.heap news) (ha : (ax, listOf vs.toArray k) ∈ news) (hm : Keep l m₀) (hD : D vs news) (hk : ∀ r n, D r n → (ax, listOf vs.toArray k) ∈ n)
    (zero : ∀ m n h tk, D [] n → Fr h₀ env.locals h (fun y => mOn l m y) → News h₀ env.locals h n → Q .next { s with heap := h, toks := tk })
    (turn : ∀ I v r m n h tk o, (∀ q ∈ n, @Ne Nat q.1 I) → D (v :: r) n → o.cls = .type "list_iterator" → Fr h₀ env.locals h (fun y => mOn l m y) → News h₀ env.locals h ((I, o) :: n) →
      wpAny (model prog w) A (assign target env v) (fun _ s₂ => wpAny (model prog w) A (execs body env) (UnrPostW h₀ env.locals { s with heap := h, toks := tk } [(I, o)] (fun m' n' => SubL [(ax, listOf vs.toArray k)] n' ∧ Keep l m' ∧ D r n' ∧ ∀ q ∈ n', @Ne Nat q.1 I) Q) E s₂) E { s with heap := h, toks := tk }) :
    wpAny (model prog w) A (pyIter (.ref ax)) (fun it s₂ => TurnsAt prog w A h₀ env target body Q E it s₂) E s :=
  iter_listTurns hh F N ha rfl rfl fun I hI => by
    refine items_inv (I := I) (kind := "list_iterator") (keep := [(ax, listOf vs.toArray k)]) (fun xs m n => ∃ us, xs = us.map Itm.val ∧ Keep l m ∧ D us n ∧ ∀ q ∈ n, @Ne Nat q.1 I) (fun m n p h tk F N => ?_) (fun a r m n p v h tk o hc ha F N => ?_) _ _ _ ⟨vs, rfl, hm, hD, fun q hq => Nat.ne_of_lt (hI q hq)⟩
    · obtain ⟨us, e, km, d, _⟩ := p
      have : us = [] := by cases us with | nil => rfl | cons x y => cases e
      subst this
      exact zero m n h tk d (fr_on F km) N
    · obtain ⟨us, e, km, d, off⟩ := p
      cases us with
      | nil => cases e
      | cons x us =>
        obtain ⟨rfl, rfl⟩ := List.cons.inj e
        have e' : v = x := ha
        subst e'
        refine wpAny_mono (turn I v us m n h tk o off d hc (fr_on F km) N) (fun _ s₂ h₂ => wpAny_mono h₂ (fun f s₃ q => ?_) fun _ _ x => x) fun _ _ x => x
        have up : UnrEndW h₀ env.locals { s with heap := h, toks := tk } [(I, o)] (fun m' n' => SubL [(ax, listOf vs.toArray k)] n' ∧ Keep l m' ∧ D us n' ∧ ∀ q ∈ n', @Ne Nat q.1 I) s₃ → UnrEndW h₀ env.locals { s with heap := h, toks := tk } [(I, o)] (fun m' n' => SubL [(ax, listOf vs.toArray k)] n' ∧ ∃ us', us.map Itm.val = us'.map Itm.val ∧ Keep l m' ∧ D us' n' ∧ ∀ q ∈ n', @Ne Nat q.1 I) s₃ := by
          rintro ⟨h', tk', m', news', e, F', N', off, hk, k, en, d'⟩
          exact ⟨h', tk', m', news', e, F', N', off, hk, us, rfl, k, en, d'⟩
        cases f with
        | ret v => exact q
        | brk => exact q
        | next => exact up q
        | cont => exact up q
/-- a turn's end under list_inv -/
theorem turn_inv {I L ax : Addr} {o lo : Obj} {news news₁ : List (Addr × Obj)} {l : List (Str × Value)} {D : List (Addr × Obj) → Prop} {s₁ : Shared} {h' : Heap} {tk : Nat} {m' : Str → Option Value}
    (F : Fr h₀ L h' m') (N : News h₀ L h' news₁) (hI : (I, o) ∈ news₁) (hs : ∀ q ∈ news, q ∈ news₁) (off : ∀ q ∈ news, @Ne Nat q.1 I) (hk : (ax, lo) ∈ news) (km : Keep l m') (d : D news) :
    UnrEndW h₀ L s₁ [(I, o)] (fun m' n' => SubL [(ax, lo)] n' ∧ Keep l m' ∧ D n' ∧ ∀ q ∈ n', @Ne Nat q.1 I) { s₁ with heap := h', toks := tk } := by
  refine ⟨h', tk, m', news, rfl, F, fun q hq => ?_, fun q hq r hr => ?_, ⟨hk, trivial⟩, km, d, off⟩
  · rcases List.mem_cons.mp hq with rfl | hq
    · exact N _ hI
    · exact N _ (hs _ hq)
  · rw [List.mem_singleton.mp hr]
    exact off q hq
end
section
variable {prog : Program} {w : World} {A : Around} {E : Value → Shared → Prop} {s : Shared} {h₀ : Heap} {L D : Addr} {m : Str → Option Value} {news news' : List (Addr × Obj)} {vs : List Value} {x v : Value} {k : Nat} {t : Tok}
theorem set_last {Q : Unit → Shared → Prop} (F : Fr h₀ L s.heap m) (N : News h₀ L s.heap news) (U : Upd D (listOf (vs ++ [x]).toArray k) (listOf (vs ++ [v]).toArray k) news news') (h : ∀ h', Fr h₀ L h' m → News h₀ L h' news' → Q () { s with heap := h' }) :
    wpAny (model prog w) A (setItem (.ref D) (.int (-1) t) v) Q E s := by
  refine ki_setNeg (j := vs.length) (q := vs ++ [v]) F N (by decide) (by decide) ?_ ?_ U h
  · rw [List.size_toArray, seqIndex_neg (by decide) (by rw [List.length_append, List.length_singleton]; omega), List.length_append, List.length_singleton]
    congr 1
    omega
  · show ki_setL (vs ++ [x]) vs.length v = some (vs ++ [v])
    clear U N
    induction vs with
    | nil => rfl
    | cons y r ih => simp only [List.cons_append, List.length_cons, ki_setL, ih]
theorem len_list {a : Addr} {Q : Value → Shared → Prop} (N : News h₀ L s.heap news) (hm : (a, listOf vs.toArray k) ∈ news) (hl : vs.length < 10000) (h : ∀ t tk, Q (.int (vs.length : Int) t) { s with toks := tk }) : wpAny (model prog w) A (call (.builtin "len") [.ref a]) Q E s :=
  Calls.call_len_list (items := vs.toArray) ⟨_, (N _ hm).1, rfl, k, rfl⟩ (by rw [List.size_toArray]; exact Int.lt_of_lt_of_le (Int.ofNat_lt.mpr hl) (by decide)) (by rw [List.size_toArray]; exact h _ _)
theorem tup_of {a : Addr} {Q : Value → Shared → Prop} (F : Fr h₀ L s.heap m) (N : News h₀ L s.heap news) (hm : (a, listOf vs.toArray k) ∈ news) (hl : vs.length ≤ 10000)
    (h : ∀ D h', Fr h₀ L h' m → News h₀ L h' ((D, tupO vs 0) :: news) → (∀ p ∈ news, p.1 < D) → Q (.ref D) { s with heap := h' }) : wpAny (model prog w) A (call (.type "tuple") [.ref a]) Q E s :=
  kde_tupleOf (items := vs.toArray) F N ⟨_, (N _ hm).1, rfl, k, rfl⟩ (by rw [List.size_toArray]; omega) rfl h
end
/-! ### runs of numbers -/
noncomputable def stepR (out : List (Int × Int)) (n : Int) : List (Int × Int) := match out.getLast? with
  | some l => if n ≤ l.2 + 1 then out.dropLast ++ [(l.1, n)] else out ++ [(n, n)]
  | none => [(n, n)]
noncomputable def runsOf (ns : List Int) : List (Int × Int) := ns.foldl stepR []
theorem stepR_nil {n : Int} : stepR [] n = [(n, n)] := rfl
theorem stepR_in {out : List (Int × Int)} {l : Int × Int} {n : Int} (h : n ≤ l.2 + 1) : stepR (out ++ [l]) n = out ++ [(l.1, n)] := by
  unfold stepR; rw [List.getLast?_concat]; simp [h]
theorem stepR_out {out : List (Int × Int)} {l : Int × Int} {n : Int} (h : ¬ n ≤ l.2 + 1) : stepR (out ++ [l]) n = out ++ [l] ++ [(n, n)] := by
  unfold stepR; rw [List.getLast?_concat]; simp [h]

/-! ### the law's own reading -/
noncomputable def lawLeaf (num uid : Int) (fl : List Str) (g1 g2 : Int) (t : T) : Bool := match t with
  | .flag x => lawFlag x fl
  | .seq ps => lawHas ps num g1
  | .uid ps => lawHas ps uid g2
  | _ => false
noncomputable def lawT (num uid : Int) (fl : List Str) (g1 g2 : Int) (t : T) : Bool := evalT (lawLeaf num uid fl g1 g2) t
noncomputable abbrev letD (l : Int × Int × List Str) : Dat := .tuple [.int l.1, .int l.2.1, .tuple (l.2.2.map Dat.str)]
theorem dat_strs {n : List (Addr × Obj)} : ∀ {vs : List Value} {fl : List Str}, DatAll n vs (fl.map Dat.str) → StrsAre vs fl
  | vs, [], h => by obtain rfl := dat_nil h; exact .nil
  | vs, x :: fl, h => by
    obtain ⟨v, r, rfl, hv, hr⟩ := dat_cons h
    obtain ⟨t, rfl⟩ := dat_str hv
    exact .cons _ _ (dat_strs hr)
theorem strs_dat {n : List (Addr × Obj)} {vs : List Value} {fl : List Str} (h : StrsAre vs fl) : DatAll n vs (fl.map Dat.str) := by
  induction h with
  | nil => exact .nil
  | cons y t _ ih => exact .cons (.str y t) ih
inductive LetAt (n : List (Addr × Obj)) (v : Value) (l : Int × Int × List Str) : Prop
  | mk (a : Addr) (t1 t2 : Tok) (fx : Addr) (k : Nat) (fvs : List Value) (k2 : Nat) (z0 : v = .ref a) (z1 : (a, tupO [.int l.1 t1, .int l.2.1 t2, .ref fx] k) ∈ n) (z2 : (fx, tupO fvs k2) ∈ n) (z3 : StrsAre fvs l.2.2) : LetAt n v l
theorem dat_let {n : List (Addr × Obj)} {v : Value} {l : Int × Int × List Str} (h : DatIn n v (letD l)) : LetAt n v l := by
  obtain ⟨a, x, y, z, k, rfl, hm, hx, hy, hz⟩ := dat_three h
  obtain ⟨t1, rfl⟩ := dat_int hx
  obtain ⟨t2, rfl⟩ := dat_int hy
  obtain ⟨fx, fvs, k2, rfl, hf, hr⟩ := dat_tup hz
  exact ⟨a, t1, t2, fx, k, fvs, k2, rfl, hm, hf, dat_strs hr⟩
section
variable (w : World) (p : Program) (loose : List Str) (mean : ExcName → Option Value) (mg mb : Str → Option Value) (num : Int) (t1 : Tok) (lv : Value) (cx : Addr) (l : Int × Int × List Str) (g1 g2 : Int)
noncomputable def MetAt (base : List (Addr × Obj)) (t : T) (k : Nat) : Prop :=
  ∀ news tv, (∀ q ∈ base, q ∈ news) → DatIn news tv t.dat → Ct w p loose mean mg mb 857 [tv, .int num t1, lv, .ref cx] news k (fun r n => r = .bool (lawT num l.2.1 l.2.2 g1 g2 t) ∧ n = news)
end
section
variable {w : World} {p : Program} {loose : List Str} {mean : ExcName → Option Value} {mg mb : Str → Option Value} {num : Int} {t1 : Tok} {lv : Value} {cx : Addr} {l : Int × Int × List Str} {g1 g2 : Int} {base news : List (Addr × Obj)} {t : T} {k : Nat} {tv : Value}
theorem MetAt.use (h : MetAt w p loose mean mg mb num t1 lv cx l g1 g2 base t k) (hb : ∀ q ∈ base, q ∈ news) (hd : DatIn news tv t.dat) : Ct w p loose mean mg mb 857 [tv, .int num t1, lv, .ref cx] news k (fun r n => r = .bool (lawT num l.2.1 l.2.2 g1 g2 t) ∧ n = news) := h news tv hb hd
theorem MetAt.mono {k' : Nat} (h : MetAt w p loose mean mg mb num t1 lv cx l g1 g2 base t k) (i : k ≤ k') : MetAt w p loose mean mg mb num t1 lv cx l g1 g2 base t k' := fun news tv hb hd => (h news tv hb hd).need i
end

/-! ### letters: what is due -/
noncomputable def idxL (b : Bool) (l : Int × Int × List Str) : Int := if b then l.2.1 else l.1
noncomputable def topsL (b : Bool) (ls : List (Int × Int × List Str)) : Int × Int := match ls.getLast? with
  | some l => (idxL b l, l.2.1)
  | none => (0, 0)
theorem topsL_snoc {b : Bool} {ls : List (Int × Int × List Str)} {l : Int × Int × List Str} : topsL b (ls ++ [l]) = (idxL b l, l.2.1) := by
  unfold topsL; rw [List.getLast?_concat]
noncomputable def metP (b : Bool) (g : Int × Int) (t : T) (l : Int × Int × List Str) : Bool := lawT (idxL b l) l.2.1 l.2.2 g.1 g.2 t
noncomputable def dueL (b : Bool) (t : T) (ls : List (Int × Int × List Str)) : List Int := (ls.filter (metP b (topsL b ls) t)).map (idxL b)
theorem dat_snoc {n : List (Addr × Obj)} {d : Dat} : ∀ {ds : List Dat} {ovs : List Value}, DatAll n ovs (ds ++ [d]) → ∃ vs v, ovs = vs ++ [v] ∧ DatAll n vs ds ∧ DatIn n v d
  | [], ovs, h => by
    obtain ⟨v, r, rfl, hv, hr⟩ := dat_cons h
    obtain rfl := dat_nil hr
    exact ⟨[], v, rfl, .nil, hv⟩
  | x :: out, ovs, h => by
    obtain ⟨v, r, rfl, hv, hr⟩ := dat_cons h
    obtain ⟨vs, u, rfl, h1, h2⟩ := dat_snoc hr
    exact ⟨v :: vs, u, rfl, .cons hv h1, h2⟩
theorem dat_len {n : List (Addr × Obj)} : ∀ {vs : List Value} {ds : List Dat}, DatAll n vs ds → vs.length = ds.length
  | _, _, .nil => rfl
  | _, _, .cons _ r => congrArg (· + 1) (dat_len r)
noncomputable def LetsOk (ls : List (Int × Int × List Str)) : Prop := ls.length ≤ 10 ∧ ∀ l ∈ ls, l.2.2.length ≤ 10 ∧ ∀ y ∈ l.2.2, y.length ≤ 60
inductive DueR (news : List (Addr × Obj)) (fs : List Int) (r : Value) (n : List (Addr × Obj)) : Prop
  | mk (D : Addr) (ys : List Value) (k : Nat) (z0 : r = .ref D) (z1 : n = (D, listOf ys.toArray k) :: news) (z2 : (∀ q ∈ news, @Ne Nat q.1 D)) (z3 : IntsAre ys fs) : DueR news fs r n
theorem u_due {news : List (Addr × Obj)} {fs : List Int} (P : PR) (h : ∀ D ys k, (∀ q ∈ news, @Ne Nat q.1 D) → IntsAre ys fs → P (.ref D) ((D, listOf ys.toArray k) :: news)) (r : Value) (n : List (Addr × Obj)) (e : DueR news fs r n) : P r n := by
  obtain ⟨D, ys, k, rfl, rfl, a, b⟩ := e
  exact h D ys k a b
section
variable {prog : Program} {w : World} {A : Around} {E : Value → Shared → Prop} {s : Shared} {env : Env} {st : Stmt} {rest : List Stmt} {Q : Flow → Shared → Prop}
/-- a statement cut off: what holds behind it is all that goes on -/
theorem stmt_cut (P : Shared → Prop) (h1 : wpAny (model prog w) A (exec st env) (fun fl s' => fl = .next ∧ P s') E s) (h2 : ∀ s', P s' → wpAny (model prog w) A (execs rest env) Q E s') : wpAny (model prog w) A (execs (st :: rest) env) Q E s := by
  refine wpAny_execs_cons (wpAny_mono h1 (fun fl s' h => ?_) fun _ _ e => e)
  obtain ⟨rfl, hp⟩ := h
  exact h2 s' hp
end

/-! ### enumerate as a source: tuples -/
section
open PySem.Builtin PySem.Builtin.Str PySem.AutoSeq1
variable {prog : Program} {w : World} {A : Around} {E : Value → Shared → Prop} {s : Shared}
theorem nextOf_tuple_item {it t : Addr} {i : Nat} {items : Array Value} {x : Value} {Q : Value → Shared → Prop} (hit : s.heap.IsTupleIter it t i) (ht : s.heap.IsTuple t items) (hx : items[i]? = some x)
    (hQ : ∀ h', h'.IsTupleIter it t (i + 1) → Heap.SameBut it s.heap h' → Q x { s with heap := h' }) : wpAny (model prog w) A (Builtin.SmallTypes.nextOf (.ref it)) Q E s := by
  obtain ⟨o, ho, hc, hd⟩ := id hit
  obtain ⟨ol, hol, _, nl, hdl⟩ := ht
  unfold Builtin.SmallTypes.nextOf
  refine wpAny_bind (wpAny_callSpecial?_slot (name := PySem.Str.ofString "__next__") hit.typeIs F.slot_tuple_iterator_next
    (wpAny_call_entry F.slot_tuple_iterator_next hit.typeIs F.entry_tuple_iterator_next ?_ (F.args_tuple_iterator_next_1 _)))
  show wpAny _ _ (field (.ref it) 0 >>= _) _ _ s
  refine wpAny_bind (wpAny_field ho hd (x := .ref t) rfl ?_)
  show wpAny _ _ (if (Value.ref t == Value.none) = true then _ else _) _ _ s
  rw [if_neg (show ¬ ((Value.ref t == Value.none) = true) from Bool.false_ne_true)]
  show wpAny _ _ (field (.ref it) 1 >>= _) _ _ s
  refine wpAny_bind (wpAny_field ho hd (x := .int i 0) rfl ?_)
  show wpAny _ _ (seqItems? (.ref t) >>= _) _ _ s
  refine wpAny_bind (wpAny_seqItems hol hdl ?_)
  simp only [Int.toNat_natCast, hx]
  refine wpAny_bind (wpAny_setField ho hd (by simp) (wpAny_pure ⟨x, rfl, wpAny_pure (hQ _ ?_ (Heap.SameBut.update ..))⟩))
  exact ⟨_, Heap.get?_update_self _ ho (Obj.isFreed_of_fields (Obj.data_mapFields hd _)), (Obj.cls_mapFields ..).trans hc, by
    rw [Obj.data_mapFields hd]; simp [rawInt]⟩
theorem nextOf_tuple_end {it t : Addr} {i : Nat} {items : Array Value} {Q : Value → Shared → Prop} (hh : A.handled = none) (hit : s.heap.IsTupleIter it t i) (ht : s.heap.IsTuple t items) (hx : items[i]? = none)
    (hE : ∀ h' e, Heap.ExtBut it s.heap h' → (∃ o, h'.get? e = some o ∧ o.cls = .type "StopIteration") → E (.ref e) { s with heap := h' }) : wpAny (model prog w) A (Builtin.SmallTypes.nextOf (.ref it)) Q E s := by
  obtain ⟨o, ho, hc, hd⟩ := id hit
  obtain ⟨ol, hol, _, nl, hdl⟩ := ht
  unfold Builtin.SmallTypes.nextOf
  refine wpAny_bind (wpAny_callSpecial?_slot (name := PySem.Str.ofString "__next__") hit.typeIs F.slot_tuple_iterator_next
    (wpAny_call_entry F.slot_tuple_iterator_next hit.typeIs F.entry_tuple_iterator_next ?_ (F.args_tuple_iterator_next_1 _)))
  show wpAny _ _ (field (.ref it) 0 >>= _) _ _ s
  refine wpAny_bind (wpAny_field ho hd (x := .ref t) rfl ?_)
  show wpAny _ _ (if (Value.ref t == Value.none) = true then _ else _) _ _ s
  rw [if_neg (show ¬ ((Value.ref t == Value.none) = true) from Bool.false_ne_true)]
  show wpAny _ _ (field (.ref it) 1 >>= _) _ _ s
  refine wpAny_bind (wpAny_field ho hd (x := .int i 0) rfl ?_)
  show wpAny _ _ (seqItems? (.ref t) >>= _) _ _ s
  refine wpAny_bind (wpAny_seqItems hol hdl ?_)
  simp only [Int.toNat_natCast, hx]
  refine wpAny_bind (wpAny_rule (wpAny_bind (wpAny_setField ho hd (by simp) ?_)))
  show wpAny _ _ (newExc (.type "StopIteration") [] >>= _) _ _ _
  refine wpAny_bind ?_
  simp only [newExc, newTuple]
  refine wpAny_bind (wpAny_newObj_type ?_ (by size_fits))
  refine wpAny_bind (m := firstArgMember _ _) (wpAny_of_eq (a := Value.none) (by first | rfl | (simp only [firstArgMember]; rfl)) ?_)
  refine wpAny_newObj_type ?_ (by size_fits)
  simp only [raiseNew]
  refine wpAny_bind (wpAny_handled ?_)
  first | rw [show A.in1.handled = none from hh] | rw [hh]
  refine wpAny_bind (wpAny_pure (wpAny_throw ?_))
  exact hE _ _ (((Heap.SameBut.update ..).extBut.push _).push _) ⟨_, Heap.get?_push_size _ rfl, rfl⟩
end
theorem draws_tuple {prog : Program} {w : World} {A : Around} (hh : A.handled = none) (it l : Addr) (hne : l ≠ it) (items : Array Value) :
    Draws prog w A it [it, l] items.size (fun i v => items[i]? = some v) (fun i h => h.IsTupleIter it l i ∧ h.IsTuple l items) where
  live := fun _ _ st => let ⟨o, ho, _⟩ := st.1; ⟨o, ho⟩
  frame := fun _ _ _ st hk => ⟨st.1.at fun o e => hk it (by simp) o e, st.2.at fun o e => hk l (by simp) o e⟩
  item := fun i s Q E hi st hQ => by
    refine nextOf_tuple_item st.1 st.2 (x := items[i]) (by simp [hi]) fun h' hit' hs' => ?_
    exact hQ _ h' s.toks (by simp [hi]) ⟨hit', st.2.extBut hs'.extBut hne⟩ hs'
  done := fun s Q E st hE => nextOf_tuple_end hh st.1 st.2 (by simp) hE
theorem enumerate_newT (l : Addr) (items : Array Value) (n : Nat) (dct : Option Addr) (sl : Array (Option Value)) :
    Meets (Builtin.«enumerate.__new__» ⟨[.type "enumerate", .ref l], []⟩) (fun _ R s => s.heap.get? l = some { cls := .type "tuple", dict := dct, data := .seq items n, slots := sl } ∧
      R (.ok (.ret (.ref (s.heap.push { cls := .type "tuple_iterator", data := .fields #[.ref l, .int 0 0] }).objs.size)))
        { s with heap := (s.heap.push { cls := .type "tuple_iterator", data := .fields #[.ref l, .int 0 0] }).push { cls := .type "enumerate", data := .fields #[.none, .bool false, .ref s.heap.objs.size, rawInt 0, .none, .none] } }) :=
  .of_wp fun prog w A R s h => by
    obtain ⟨hp, g, d, tk, os⟩ := s; obtain ⟨hl, h⟩ := h
    have hsub := sub_enumerate
    have hL : Heap.IsTuple (Shared.heap ⟨hp, g, d, tk, os⟩) l items := ⟨_, hl, rfl, n, rfl⟩
    wp_walk using AutoSeq1.wpAny_loadPart' hl
    refine wpAny_stack_any fun st => wpAny_pure ?_
    split
    · rename_i c _ _ _ _ _
      cases (c == Value.type "enumerate")
      · wp_walk using AutoSeq1.wpAny_loadPart' hl, wpAny_pyIter_tuple hL
        exact ⟨_, rfl, h⟩
      · wp_walk using AutoSeq1.wpAny_loadPart' hl, wpAny_pyIter_tuple hL
        exact ⟨_, rfl, h⟩
    · wp_walk using AutoSeq1.wpAny_loadPart' hl, wpAny_pyIter_tuple hL
      exact ⟨_, rfl, h⟩
theorem enumerate_tuple {prog : Program} {w : World} {A : Around} {E : Value → Shared → Prop} {s : Shared} {l : Addr} {items : Array Value} {Q : Value → Shared → Prop} (hL : s.heap.IsTuple l items)
    (h : ∀ h', IsEnum h' (s.heap.objs.size + 1) s.heap.objs.size 0 .none → h'.IsTupleIter s.heap.objs.size l 0 → h'.objs.size = s.heap.objs.size + 2 →
      (∀ b o, s.heap.get? b = some o → h'.get? b = some o) → Q (.ref (s.heap.objs.size + 1)) { s with heap := h' }) :
    wpAny (model prog w) A (call (.type "enumerate") [.ref l]) Q E s := by
  obtain ⟨⟨c, dct, dt, sl⟩, hl, hc, n, hd⟩ := hL
  replace hc : c = .type "tuple" := hc
  replace hd : dt = .seq items n := hd
  subst hc hd
  refine callType_new F.called_enumerate (by decide) (F.typeCall_enumerate_1 _) (F.newCall_enumerate_1 _) (fun obj => F.args_object_init_2 obj _) F.entry_enumerate_new
    (enumerate_newT l items n dct sl) ⟨hl, ?_⟩
  have hz : (s.heap.push { cls := .type "tuple_iterator", data := .fields #[.ref l, .int 0 0] }).objs.size = s.heap.objs.size + 1 := Heap.size_push ..
  show _ ∧ _
  rw [hz]
  have he : IsEnum ((s.heap.push { cls := .type "tuple_iterator", data := .fields #[.ref l, .int 0 0] }).push
      { cls := .type "enumerate", data := .fields #[.none, .bool false, .ref s.heap.objs.size, rawInt 0, .none, .none] }) (s.heap.objs.size + 1) s.heap.objs.size 0 .none := by
    have := Heap.get?_push_size (s.heap.push { cls := .type "tuple_iterator", data := .fields #[.ref l, .int 0 0] })
      (o := { cls := .type "enumerate", data := .fields #[.none, .bool false, .ref s.heap.objs.size, rawInt 0, .none, .none] }) rfl
    rw [hz] at this; exact this
  refine ⟨⟨_, he, rfl⟩, h _ he ⟨_, Heap.get?_push_of_some _ (Heap.get?_push_size _ rfl), rfl, rfl⟩ (by rw [Heap.size_push, hz]) fun b o x => Heap.get?_push_of_some _ (Heap.get?_push_of_some _ x)⟩

/-! ### items, by a function of one's own data -/
open PyProof.Rows.LCg (NsObj lst ns_obj lst_snoc)
noncomputable def JI {α : Type} (g : α → Itm) (D : List α → List Value → List (Addr × Obj) → Prop) : List Itm → List Value → List (Addr × Obj) → Prop := fun r ys news => ∃ us : List α, r = us.map g ∧ D us ys news
theorem map_itm_cons {α : Type} {g : α → Itm} {a : Itm} {r : List Itm} {us : List α} (e : a :: r = us.map g) : ∃ v q, us = v :: q ∧ a = g v ∧ r = q.map g := by
  cases us with
  | nil => cases e
  | cons v q => obtain ⟨h1, h2⟩ := List.cons.inj e; exact ⟨v, q, rfl, h1, h2⟩
theorem map_itm_nil {α : Type} {g : α → Itm} {us : List α} (e : ([] : List Itm) = us.map g) : us = [] := by
  cases us with
  | nil => rfl
  | cons v q => cases e
noncomputable def ItmIs (x : Str) (a : Itm) (m : Str → Option Value) : Prop := match a with
  | .val v => m x = some v
  | .tok f => ∃ t, m x = some (f t)
  | .flat d => ∃ u, m x = some u ∧ PyProof.V.Flat u d
  | _ => False
noncomputable def PairIs (x y : Str) (a : Itm) (m : Str → Option Value) : Prop := match a with
  | .pair f v => (∃ t, m x = some (f t)) ∧ m y = some v
  | .pairF f d => (∃ t, m x = some (f t)) ∧ ∃ u, m y = some u ∧ PyProof.V.Flat u d
  | _ => False
noncomputable def IsPair (a : Itm) : Prop := match a with
  | .pair _ _ => True
  | .pairF _ _ => True
  | _ => False
noncomputable def IsOne (a : Itm) : Prop := match a with
  | .val _ => True
  | .tok _ => True
  | .flat _ => True
  | _ => False
/-- an enumerated list's items -/
noncomputable abbrev ePair (q : Nat × Value) : Itm := .pair (fun t => .int (q.1 : Int) t) q.2
noncomputable abbrev eSign (q : Nat × Nat) : Itm := .pairF (fun t => .int (q.1 : Int) t) (.str ⟨#[q.2]⟩)
section
variable {prog : Program} {w : World} {A : Around} {E : Value → Shared → Prop} {s : Shared} {h₀ : Heap} {L : Addr} {m : Str → Option Value} {env : Env} {target elt iter : Expr} {ct : Option Expr} {scope : Scope} {cl : List (Str × Addr)} {pos : Pos}
theorem takes_one {α : Type} {g : α → Itm} {D : List α → List Value → List (Addr × Obj) → Prop} {x : Str} {px : Pos} (hg : ∀ u, IsOne (g u)) (hkind : scope.kind = .function) (hx : scope.names.lookup x = some .local) :
    Takes prog w A h₀ (.Name x px) scope cl env (fun a _ m => ItmIs x a m) (JI g D) := by
  intro a r ys news v C m₂ s Q E hJ ha _ _ hn h
  obtain ⟨us, e, d⟩ := hJ
  obtain ⟨u, q, rfl, rfl, _⟩ := map_itm_cons e
  refine asg_name hkind hx hn fun h' tk m' hm _ hn' ho => h h' tk m' ?_ hn' ho
  have hg' := hg u
  revert ha hg'
  generalize g u = a
  intro ha hg'
  cases a with
  | val v' => have : v = v' := ha; subst this; exact hm
  | tok f => obtain ⟨t, rfl⟩ := ha; exact ⟨t, hm⟩
  | flat d => exact ⟨v, hm, ha⟩
  | pair => exact hg'.elim
  | pairF => exact hg'.elim
theorem takes_pair {α : Type} {g : α → Itm} {D : List α → List Value → List (Addr × Obj) → Prop} {elts : List Expr} {kk : Nat} {tp : Pos} {x y : Str} {px py : Pos} (hg : ∀ u, IsPair (g u)) (hh : A.handled = none) (hkind : scope.kind = .function)
    (he : ∀ e : Env, assignEach elts e = [(x, px), (y, py)].map fun y => (false, assign (.Name y.1 y.2) e)) (hx : ∀ z ∈ [(x, px), (y, py)], scope.names.lookup z.1 = some .local) (hd : ([(x, px), (y, py)].map (·.1)).Nodup) :
    Takes prog w A h₀ (.Tuple elts kk tp) scope cl env (fun a _ m => PairIs x y a m) (JI g D) := by
  intro a r ys news v C m₂ s Q E hJ ha _ _ hn h
  obtain ⟨us, e, d⟩ := hJ
  obtain ⟨u, q, rfl, rfl, _⟩ := map_itm_cons e
  have hg' := hg u
  revert ha hg' h
  generalize g u = a
  intro ha h hg'
  cases a with
  | pair f v' =>
    obtain ⟨T, t, rfl, hT⟩ := ha
    exact asg_tup [(x, px), (y, py)] (us := [f t, v']) hh hkind he hT rfl hx hd hn fun h' tk m' hb hn' ho => h h' tk m' ⟨⟨t, hb.1⟩, hb.2.1⟩ hn' ho
  | pairF f d =>
    obtain ⟨T, t, v', rfl, hf, hT⟩ := ha
    exact asg_tup [(x, px), (y, py)] (us := [f t, v']) hh hkind he hT rfl hx hd hn fun h' tk m' hb hn' ho => h h' tk m' ⟨⟨t, hb.1⟩, v', hb.2.1, hf⟩ hn' ho
  | val => exact hg'.elim
  | tok => exact hg'.elim
  | flat => exact hg'.elim
theorem turns_one {α : Type} {g : α → Itm} {D : List α → List Value → List (Addr × Obj) → Prop} {knd : String} {B : Itm → List (Addr × Obj) → (Str → Option Value) → Prop}
    (t : ∀ u r ys news' I oI C oC Dd m₂ h tk E', D (u :: r) ys news' → B (g u) news' m₂ → Fr h₀ L h m → oI.cls = .type knd → NsObj oC m₂ → News h₀ L h ((I, oI) :: (C, oC) :: (Dd, lst ys) :: news') → ((@Ne Nat I C) ∧ (@Ne Nat I Dd) ∧ (@Ne Nat C Dd)) → (∀ p ∈ news', (@Ne Nat p.1 I) ∧ (@Ne Nat p.1 C) ∧ (@Ne Nat p.1 Dd)) →
      Tst prog w A ct (compEnvC scope cl C env) E' (fun ok s₃ => if ok = true then wpAny (model prog w) A (eval elt (compEnvC scope cl C env)) (fun y s₄ => CEnd h₀ L m { s with heap := h, toks := tk } [(I, oI)] C Dd ys (D r (ys ++ [y])) s₄) E' s₃
        else CEnd h₀ L m { s with heap := h, toks := tk } [(I, oI)] C Dd ys (D r ys) s₃) { s with heap := h, toks := tk }) :
    Turns prog w A h₀ L m elt ct scope cl env (fun I => [(I, knd)]) B (JI g D) s := by
  intro I a r ys news' C Dd m₂ h tk E' hJ hB F hCD hoff oI hI oC hoC N hits
  obtain ⟨us, e, d⟩ := hJ
  obtain ⟨v, q, rfl, rfl, rfl⟩ := map_itm_cons e
  have hI' := hits _ (List.mem_singleton.mpr rfl)
  refine tst_mono (t v q ys news' I oI C oC Dd m₂ h tk E' d hB F hI hoC N ⟨hI'.1, hI'.2.1, hCD⟩ fun p hp => ⟨hI'.2.2 p hp, hoff p hp⟩) fun ok s₃ h₃ => ?_
  cases ok with
  | true =>
    simp only [if_true] at h₃ ⊢
    exact wpAny_mono h₃ (fun y s₄ h₄ => cend_mono h₄ fun n d => ⟨q, rfl, d⟩) fun _ _ e => e
  | false =>
    simp only [Bool.false_eq_true, if_false] at h₃ ⊢
    exact cend_mono h₃ fun n d => ⟨q, rfl, d⟩
theorem turns_two {α : Type} {g : α → Itm} {D : List α → List Value → List (Addr × Obj) → Prop} {k1 k2 : String} {f1 f2 : Addr → Addr} {B : Itm → List (Addr × Obj) → (Str → Option Value) → Prop}
    (t : ∀ u r ys news' I I2 oI oI2 C oC Dd m₂ h tk E', D (u :: r) ys news' → B (g u) news' m₂ → Fr h₀ L h m → oI.cls = .type k1 → oI2.cls = .type k2 → NsObj oC m₂ → News h₀ L h ((I, oI) :: (I2, oI2) :: (C, oC) :: (Dd, lst ys) :: news') →
      (∀ p ∈ news', (@Ne Nat p.1 I) ∧ (@Ne Nat p.1 I2) ∧ (@Ne Nat p.1 C) ∧ (@Ne Nat p.1 Dd)) →
      Tst prog w A ct (compEnvC scope cl C env) E' (fun ok s₃ => if ok = true then wpAny (model prog w) A (eval elt (compEnvC scope cl C env)) (fun y s₄ => CEnd h₀ L m { s with heap := h, toks := tk } [(I, oI), (I2, oI2)] C Dd ys (D r (ys ++ [y])) s₄) E' s₃
        else CEnd h₀ L m { s with heap := h, toks := tk } [(I, oI), (I2, oI2)] C Dd ys (D r ys) s₃) { s with heap := h, toks := tk }) :
    Turns prog w A h₀ L m elt ct scope cl env (fun I => [(f1 I, k1), (f2 I, k2)]) B (JI g D) s := by
  intro I a r ys news' C Dd m₂ h tk E' hJ hB F hCD hoff oI hI oI2 hI2 oC hoC N hits
  obtain ⟨us, e, d⟩ := hJ
  obtain ⟨v, q, rfl, rfl, rfl⟩ := map_itm_cons e
  have h1 := hits _ (List.mem_cons_self ..)
  have h2 := hits _ (List.mem_cons_of_mem _ (List.mem_singleton.mpr rfl))
  refine tst_mono (t v q ys news' (f1 I) (f2 I) oI oI2 C oC Dd m₂ h tk E' d hB F hI hI2 hoC N fun p hp => ⟨h1.2.2 p hp, h2.2.2 p hp, hoff p hp⟩) fun ok s₃ h₃ => ?_
  cases ok with
  | true =>
    simp only [if_true] at h₃ ⊢
    exact wpAny_mono h₃ (fun y s₄ h₄ => cend_mono h₄ fun n d => ⟨q, rfl, d⟩) fun _ _ e => e
  | false =>
    simp only [Bool.false_eq_true, if_false] at h₃ ⊢
    exact cend_mono h₃ fun n d => ⟨q, rfl, d⟩
theorem cend_two {s₁ : Shared} {I I2 C Dd : Addr} {oI oI2 oC : Obj} {m₂ : Str → Option Value} {ys : List Value} {P : List (Addr × Obj) → Prop} {h' : Heap} {tk : Nat} {l n : List (Addr × Obj)}
    (F : Fr h₀ L h' m) (N : News h₀ L h' (l ++ (I, oI) :: (I2, oI2) :: (C, oC) :: (Dd, LCg.lst ys) :: n)) (hoC : NsObj oC m₂) (hap : ∀ q ∈ l, ∀ r ∈ (I, oI) :: (I2, oI2) :: (C, oC) :: (Dd, LCg.lst ys) :: n, @Ne Nat q.1 r.1) (hoff : ∀ p ∈ n, (@Ne Nat p.1 I) ∧ (@Ne Nat p.1 I2) ∧ (@Ne Nat p.1 C) ∧ (@Ne Nat p.1 Dd)) (r : P (l ++ n)) :
    CEnd h₀ L m s₁ [(I, oI), (I2, oI2)] C Dd ys P { s₁ with heap := h', toks := tk } := by
  have off : ∀ p ∈ l ++ n, (@Ne Nat p.1 I) ∧ (@Ne Nat p.1 I2) ∧ (@Ne Nat p.1 C) ∧ (@Ne Nat p.1 Dd) := fun p hp => by
    rcases List.mem_append.mp hp with h | h
    · exact ⟨hap p h (I, oI) (by simp), hap p h (I2, oI2) (by simp), hap p h (C, oC) (by simp), hap p h (Dd, LCg.lst ys) (by simp)⟩
    · exact hoff p h
  refine ⟨h', tk, l ++ n, oC, m₂, rfl, F, hoC, fun p hp => N p ?_, fun p hp => ⟨fun q hq => ?_, (off p hp).2.2⟩, r⟩
  · simp only [List.mem_append, List.mem_cons, List.cons_append, List.nil_append, List.not_mem_nil, or_false] at hp ⊢
    rcases hp with h | h | h | h | h | h <;> simp [h]
  · rcases List.mem_cons.mp hq with rfl | hq
    · exact (off p hp).1
    · rw [List.mem_singleton.mp hq]; exact (off p hp).2.1
end

/-! ### sources: range, enumerate -/
section
variable {prog : Program} {w : World} {A : Around} {E : Value → Shared → Prop} {s : Shared} {env : Env} {h₀ : Heap} {body : List Stmt} {Q : Flow → Shared → Prop}
noncomputable abbrev rTok (i : Nat) : Itm := .tok fun t => .int (i : Int) t
theorem rangeSize_nat (n : Nat) : Builtin.Range.rangeSize 0 (n : Int) 1 = (n : Int) := by
  rw [rangeSize_one]; split <;> omega
theorem range_small {n : Nat} (h : n ≤ 1000) : Builtin.Range.small 0 (n : Int) 1 = true := small_one (by omega) (by omega) (by omega) (by omega)
theorem letGo_name {x : Str} {px : Pos} {I : Addr} {v : Value} {Q' : Unit → Shared → Prop} {s' : Shared} (h : Q' () s') : wpAny (model prog w) A (letOwnedTupleGo (.Name x px) (.ref I) v) Q' E s' := by
  unfold letOwnedTupleGo
  exact wpAny_pure h
theorem range_turns {x : Str} {px : Pos} (hh : A.handled = none) (I n : Nat) : KTurns prog w A (.Name x px) I [I] [I] n (fun i v _ => i < n ∧ ∃ t, v = .int ((0 : Int) + i * 1) t) (fun i v h => (i < n ∧ ∃ t, v = .int ((0 : Int) + i * 1) t) ∧ IsRangeIter h I (0 + ((i + 1 : Nat) : Nat) * 1) ((n : Int) - ((i + 1 : Nat) : Nat)) 1)
    (fun i h => IsRangeIter h I (0 + (i : Nat) * 1) ((n : Int) - (i : Nat)) 1) :=
  KTurns.ofWalks (Walks.range hh I 0 1 n).bound fun _ _ _ _ _ _ q => letGo_name q
theorem range_inv {x : Str} {px : Pos} {n : Nat} {t₀ : Tok} {m₀ : Str → Option Value} {news : List (Addr × Obj)} (D : Nat → (Str → Option Value) → List (Addr × Obj) → Prop)
    (hh : A.handled = none) (F : Fr h₀ env.locals s.heap m₀) (N : News h₀ env.locals s.heap news) (hn : n ≤ 1000) (hD : D n m₀ news)
    (zero : ∀ m n h tk, D 0 m n → Fr h₀ env.locals h m → News h₀ env.locals h n → Q .next { s with heap := h, toks := tk })
    (turn : ∀ I (i : Int) t k m n h tk o, (∀ q ∈ n, @Ne Nat q.1 I) → D (k + 1) m n → o.cls = .type "range_iterator" → Fr h₀ env.locals h m → News h₀ env.locals h ((I, o) :: n) →
      wpAny (model prog w) A (assign (.Name x px) env (.int i t)) (fun _ s₂ => wpAny (model prog w) A (execs body env) (UnrPostW h₀ env.locals { s with heap := h, toks := tk } [(I, o)] (fun m' n' => D k m' n' ∧ ∀ q ∈ n', @Ne Nat q.1 I) Q) E s₂) E { s with heap := h, toks := tk }) :
    wpAny (model prog w) A (call (.type "range") [.int n t₀]) (fun xv s₁ => wpAny (model prog w) A (pyIter xv) (fun it s₂ => TurnsAt prog w A h₀ env (.Name x px) body Q E it s₂) E s₁) E s := by
  refine call_range_1 ?_
  refine wpAny_pyIter_range (IsRange.new ..) (range_small hn) ?_
  dsimp only
  generalize hH : s.heap.push { cls := .type "range", data := .fields #[.int 0 s.toks, .int n t₀, .int 1 (s.toks + 1)] } = H
  have hHs : H.objs.size = s.heap.objs.size + 1 := by rw [← hH, Heap.size_push]
  have up : ∀ b o, s.heap.get? b = some o → H.get? b = some o := fun b o e => hH ▸ Heap.get?_push_of_some _ e
  have F1 : Fr h₀ env.locals H m₀ := F.keeps up
  have N1 : News h₀ env.locals H news := N.grown up
  have hlt : ∀ p ∈ news, p.1 < H.objs.size := fun p hp => Heap.lt_size (N1 p hp).1
  refine ktu_core (keep := []) (ws := [(H.objs.size, "range_iterator")]) (xs := (List.range n).map rTok) (range_turns hh H.objs.size n) (by simp) ?_ ?_ ?_ ?_ ?_ ?_ ?_ (by show IsRangeIter _ _ _ _ _; rw [rangeSize_nat]; simpa using Heap.get?_push_size H rfl) (F1.push _) (fun p hp => ⟨Heap.get?_push_of_some _ (N1 p hp).1, (N1 p hp).2⟩) trivial ?_
  · rintro i v h ⟨hi, t, rfl⟩
    exact ⟨rTok i, by simp [hi], t, by rw [Int.mul_one, Int.zero_add]⟩
  · intro i h st
    exact ⟨[(H.objs.size, _)], ⟨⟨rfl, rfl⟩, trivial⟩, fun p hp => by rw [List.mem_singleton.mp hp]; exact st⟩
  · intro b hb
    have hb' : b = H.objs.size := by simpa using hb
    rw [hb']
    exact ⟨List.mem_cons_self .., next_is_new F1⟩
  · intro b hb
    simpa using hb
  · intro b hb
    exact .inl (by simpa using hb)
  · intro hI
    exact absurd F1.ns.lt ((List.mem_singleton.mp hI) ▸ Nat.lt_irrefl _)
  · intro p hp hI
    exact absurd (hlt p hp) ((List.mem_singleton.mp hI) ▸ Nat.lt_irrefl _)
  · refine items_inv (I := H.objs.size) (kind := "range_iterator") (keep := []) (fun xs m n => (∀ a ∈ xs, ∃ i : Nat, a = rTok i) ∧ D xs.length m n ∧ ∀ q ∈ n, @Ne Nat q.1 H.objs.size) (fun m n p h tk F N => ?_) (fun a r m n p v h tk o hc ha F N => ?_) _ _ _ ⟨fun a ha => by obtain ⟨i, _, e⟩ := List.mem_map.mp ha; exact ⟨i, e.symm⟩, by simpa using hD, fun q hq => Nat.ne_of_lt (hlt q hq)⟩
    · exact zero m n h tk p.2.1 F N
    · obtain ⟨hall, d, off⟩ := p
      obtain ⟨i, rfl⟩ := hall a List.mem_cons_self
      obtain ⟨t, rfl⟩ := ha
      refine wpAny_mono (turn H.objs.size i t r.length m n h tk o off d hc F N) (fun _ s₂ h₂ => wpAny_mono h₂ (fun f s₃ q => ?_) fun _ _ x => x) fun _ _ x => x
      have up : UnrEndW h₀ env.locals { s with heap := h, toks := tk } [(H.objs.size, o)] (fun m' n' => D r.length m' n' ∧ ∀ q ∈ n', @Ne Nat q.1 H.objs.size) s₃ →
          UnrEndW h₀ env.locals { s with heap := h, toks := tk } [(H.objs.size, o)] (fun m' n' => SubL [] n' ∧ (∀ a ∈ r, ∃ i : Nat, a = rTok i) ∧ D r.length m' n' ∧ ∀ q ∈ n', @Ne Nat q.1 H.objs.size) s₃ := by
        rintro ⟨h', tk', m', news', e, F', N', off, d', off'⟩
        exact ⟨h', tk', m', news', e, F', N', off, trivial, fun a ha => hall a (List.mem_cons_of_mem _ ha), d', off'⟩
      cases f with
      | ret v => exact q
      | brk => exact q
      | next => exact up q
      | cont => exact up q
end

section
variable {prog : Program} {w : World} {A : Around} {E : Value → Shared → Prop} {s : Shared} {h₀ : Heap} {L : Addr} {m : Str → Option Value} {env : Env} {target elt iter : Expr} {ct : Option Expr} {scope : Scope} {cl : List (Str × Addr)} {pos : Pos} {Fin : Shared → List Value → List (Addr × Obj) → Prop}
theorem src_range {x : Str} {px : Pos} {n : Nat} {t₀ : Tok} {news : List (Addr × Obj)} (B : Itm → List (Addr × Obj) → (Str → Option Value) → Prop) (J : List Itm → List Value → List (Addr × Obj) → Prop)
    (hh : A.handled = none) (F : Fr h₀ L s.heap m) (N : News h₀ L s.heap news) (hn : n ≤ 1000) (asg : Takes prog w A h₀ (.Name x px) scope cl env B J)
    (J0 : J ((List.range n).map rTok) [] news) (turn : ∀ g tk, Turns prog w A h₀ L m elt ct scope cl env (fun I => [(I, "range_iterator")]) B J { s with heap := g, toks := tk })
    (fin : ∀ g tk ys news', J [] ys news' → Fin { s with heap := g, toks := tk } ys news') :
    wpAny (model prog w) A (call (.type "range") [.int n t₀]) (fun xv s₁ => wpAny (model prog w) A (pyIter xv) (fun it s₂ => CompAt prog w A h₀ L m env (.Name x px) elt ct scope cl Fin it s₂) E s₁) E s := by
  refine call_range_1 ?_
  refine wpAny_pyIter_range (IsRange.new ..) (range_small hn) ?_
  dsimp only
  generalize hH : s.heap.push { cls := .type "range", data := .fields #[.int 0 s.toks, .int n t₀, .int 1 (s.toks + 1)] } = H
  have up : ∀ b o, s.heap.get? b = some o → H.get? b = some o := fun b o e => hH ▸ Heap.get?_push_of_some _ e
  have F1 : Fr h₀ L H m := F.keeps up
  have N1 : News h₀ L H news := N.grown up
  have hlt : ∀ p ∈ news, p.1 < H.objs.size := fun p hp => Heap.lt_size (N1 p hp).1
  refine ⟨H.objs.size, _, _, _, _, _, _, [(H.objs.size, "range_iterator")], [], (List.range n).map rTok, news, B, J, rfl, range_turns hh H.objs.size n, fun s' Q E st q => (Walks.range hh H.objs.size 0 1 n).self 0 s' Q E st q, by simp, Nat.le_trans hn (by decide), ?_, fun i h st => ?_,
    fun b hb => ?_, fun b hb => by simpa using hb, fun b hb => ?_, ?_, fun b hb => ?_, fun p hp hI => ?_, (by show IsRangeIter _ _ _ _ _; rw [rangeSize_nat]; simpa using Heap.get?_push_size H rfl), F1.push _, fun p hp => ⟨Heap.get?_push_of_some _ (N1 p hp).1, (N1 p hp).2⟩, asg, J0, fun r ys news j q hq => (nomatch hq), fun a r ys news' C D m₂ h tk E' => turn _ _ _ a r ys news' C D m₂ h tk E', fun ys news' j => fin _ _ ys news' j⟩
  · rintro i v h ⟨hi, t, rfl⟩
    exact ⟨rTok i, by simp [hi], t, by rw [Int.mul_one, Int.zero_add]⟩
  · exact ⟨[(H.objs.size, _)], ⟨⟨rfl, rfl⟩, trivial⟩, fun p hp => by rw [List.mem_singleton.mp hp]; exact st⟩
  · have hb' : b = H.objs.size := by simpa using hb
    rw [hb']
    exact ⟨List.mem_cons_self .., next_is_new F1⟩
  · exact .inl (by simpa using hb)
  · intro hI
    exact absurd F1.ns.lt ((List.mem_singleton.mp hI) ▸ Nat.lt_irrefl _)
  · rw [List.mem_singleton.mp hb]
    show H.objs.size < (H.push _).objs.size
    rw [Heap.size_push]
    exact Nat.lt_succ_self _
  · have hI' : p.1 = H.objs.size := by simpa using hI
    exact absurd (hlt p hp) (hI' ▸ Nat.lt_irrefl _)
theorem src_enumD {elts : List Expr} {kk : Nat} {tp : Pos} {it e : Addr} {kind : String} {fp : List Addr} {n : Nat} {P : Nat → Value → Prop} {St : Nat → Heap → Prop} {xs : List Itm} {keep news : List (Addr × Obj)} (B : Itm → List (Addr × Obj) → (Str → Option Value) → Prop) (J : List Itm → List Value → List (Addr × Obj) → Prop)
    (D : Draws prog w A.in1 it fp n P St) (hei : e ≠ it) (hef : e ∉ fp) (hif : it ∈ fp) (hE : IsEnum s.heap e it 0 .none) (hS : St 0 s.heap) (hcls : ∀ i h, St i h → ∃ o, h.get? it = some o ∧ o.cls = .type kind)
    (hn : n = xs.length) (hsz : n ≤ sizeLine) (hx : ∀ i v, P i v → ∃ a, xs[i]? = some a ∧ ∀ T t h, IsTup h T #[.int i t, v] → a.Is (.ref T) h)
    (he0 : h₀.get? e = none) (hi0 : h₀.get? it = none) (hfp : ∀ b ∈ fp, b = it ∨ (∃ o, (b, o) ∈ keep) ∨ ∃ o, h₀.get? b = some o) (hLe : L ≠ e) (hLf : L ∉ fp) (hlt : ∀ b ∈ fp, b < s.heap.objs.size) (hnw : ∀ p ∈ news, p.1 ≠ e ∧ p.1 ≠ it)
    (F : Fr h₀ L s.heap m) (N : News h₀ L s.heap news) (asg : Takes prog w A h₀ (.Tuple elts kk tp) scope cl env B J) (J0 : J xs [] news) (hJk : ∀ r ys news, J r ys news → ∀ q ∈ keep, q ∈ news)
    (turn : Turns prog w A h₀ L m elt ct scope cl env (fun I => [(e, "enumerate"), (it, kind)]) B J s) (fin : ∀ ys news', J [] ys news' → Fin s ys news') :
    wpAny (model prog w) A (pyIter (.ref e)) (fun it s₂ => CompAt prog w A h₀ L m env (.Tuple elts kk tp) elt ct scope cl Fin it s₂) E s := by
  refine wpAny_pyIter_enum hE ?_
  refine ⟨e, e :: fp, [e, it], n, _, _, _, [(e, "enumerate"), (it, kind)], keep, xs, news, B, J, rfl, KTurns.ofWalksU (WalksT.enumerateD D e hei hef hif).toU, fun s' Q E st q => ?_, hn, hsz, ?_, fun i h st => ?_, fun b hb => ?_, fun b hb => ?_, fun b hb => ?_, ?_, fun b hb => ?_, fun p hp hI => ?_, ⟨⟨.none, hE⟩, hS⟩, F, N, asg, J0, hJk, fun a r ys news' C D m₂ h tk E' => turn e a r ys news' C D m₂ h tk E', fin⟩
  · obtain ⟨⟨old, he⟩, _⟩ := st
    exact wpAny_pyIter_enum he q
  · rintro i v h ⟨T, vals, rfl, ⟨t, x, hP, rfl⟩, hT⟩
    obtain ⟨a, ha, hai⟩ := hx i x hP
    exact ⟨a, ha, hai T t h hT⟩
  · obtain ⟨⟨old, he⟩, hs⟩ := st
    obtain ⟨o, ho, hc⟩ := hcls i h hs
    have he' : ∃ oe : Obj, h.get? e = some oe ∧ oe.cls = .type "enumerate" := ⟨_, he, rfl⟩
    obtain ⟨oe, h1, h2⟩ := he'
    refine ⟨[(e, oe), (it, o)], ⟨⟨rfl, h2⟩, ⟨rfl, hc⟩, trivial⟩, fun p hp => ?_⟩
    rcases List.mem_cons.mp hp with rfl | hp
    · exact h1
    · rw [List.mem_singleton.mp hp]; exact ho
  · have hb' : b = e ∨ b = it := by simpa using hb
    rcases hb' with rfl | rfl
    · exact ⟨List.mem_cons_self .., he0⟩
    · exact ⟨List.mem_cons_of_mem _ hif, hi0⟩
  · simpa using hb
  · rcases List.mem_cons.mp hb with rfl | hb
    · exact .inl (by simp)
    · rcases hfp b hb with rfl | h | h
      · exact .inl (by simp)
      · exact .inr (.inl h)
      · exact .inr (.inr h)
  · intro hI
    rcases List.mem_cons.mp hI with h | h
    · exact hLe h
    · exact hLf h
  · rcases List.mem_cons.mp hb with rfl | hb
    · exact Heap.lt_size hE
    · exact hlt b hb
  · have hI' : p.1 = e ∨ p.1 = it := by simpa using hI
    rcases hI' with h | h
    · exact (hnw p hp).1 h
    · exact (hnw p hp).2 h
noncomputable def zipE (vs : List Value) : List (Nat × Value) := vs.zipIdx.map fun q => (q.2, q.1)
noncomputable def zipS (x : Str) : List (Nat × Nat) := x.cps.toList.zipIdx.map fun q => (q.2, q.1)
theorem zipE_get {vs : List Value} {i : Nat} {v : Value} (h : vs[i]? = some v) : ((zipE vs).map ePair)[i]? = some (ePair (i, v)) := by
  unfold zipE
  rw [List.getElem?_map, List.getElem?_map, List.getElem?_zipIdx, h]
  simp
theorem zipS_get {x : Str} {i c : Nat} (h : x.cps[i]? = some c) : ((zipS x).map eSign)[i]? = some (eSign (i, c)) := by
  unfold zipS
  rw [List.getElem?_map, List.getElem?_map, List.getElem?_zipIdx, show x.cps.toList[i]? = some c by simpa using h]
  simp
/-- enumerate over a tuple: one of the ledger's, or one that stood before -/
theorem src_enumT {elts : List Expr} {kk : Nat} {tp : Pos} {ax : Addr} {vs : List Value} {keep news : List (Addr × Obj)} (B : Itm → List (Addr × Obj) → (Str → Option Value) → Prop) (J : List Itm → List Value → List (Addr × Obj) → Prop)
    (hh : A.handled = none) (F : Fr h₀ L s.heap m) (N : News h₀ L s.heap news) (hl : s.heap.IsTuple ax vs.toArray) (hk : (∃ o, (ax, o) ∈ keep) ∨ ∃ o, h₀.get? ax = some o) (hax : L ≠ ax) (hsz : vs.length ≤ 1000)
    (asg : Takes prog w A h₀ (.Tuple elts kk tp) scope cl env B J) (J0 : J ((zipE vs).map ePair) [] news) (hJk : ∀ r ys news, J r ys news → ∀ q ∈ keep, q ∈ news)
    (turn : ∀ I g, Turns prog w A h₀ L m elt ct scope cl env (fun _ => [(I + 1, "enumerate"), (I, "tuple_iterator")]) B J { s with heap := g }) (fin : ∀ g ys news', J [] ys news' → Fin { s with heap := g } ys news') :
    wpAny (model prog w) A (call (.type "enumerate") [.ref ax]) (fun xv s₁ => wpAny (model prog w) A (pyIter xv) (fun it s₂ => CompAt prog w A h₀ L m env (.Tuple elts kk tp) elt ct scope cl Fin it s₂) E s₁) E s := by
  have hlt : ax < s.heap.objs.size := by obtain ⟨o, ho, _⟩ := hl; exact Heap.lt_size ho
  have hLs : L < s.heap.objs.size := F.ns.lt
  refine enumerate_tuple hl fun h' hE hI hsz' hkp => ?_
  refine src_enumD (s := { s with heap := h' }) (it := s.heap.objs.size) (kind := "tuple_iterator") (fp := [s.heap.objs.size, ax]) (xs := (zipE vs).map ePair) (keep := keep) B J (draws_tuple (A := A.in1) hh s.heap.objs.size ax (Nat.ne_of_lt hlt) vs.toArray) (Nat.succ_ne_self _) ?_ (by simp) hE ⟨hI, hl.at fun o e => hkp ax o e⟩ (fun i h st => ?_)
    (by simp [zipE]) (by rw [List.size_toArray]; exact Nat.le_trans hsz (by decide)) (fun i v hv => ?_) (ktu_new F (Nat.le_add_right _ _)) (ktu_new F (Nat.le_refl _)) (fun b hb => ?_) ?_ ?_ (fun b hb => ?_) (fun p hp => ?_) (F.keeps hkp) (N.grown hkp) asg J0 hJk (fun I => turn s.heap.objs.size h' I) (fun ys news' j => fin h' ys news' j)
  · intro h
    have h' : s.heap.objs.size + 1 = s.heap.objs.size ∨ s.heap.objs.size + 1 = ax := by simpa using h
    rcases h' with h | h
    · exact Nat.succ_ne_self _ h
    · exact absurd hlt (by rw [← h]; exact Nat.not_lt.mpr (Nat.le_succ _))
  · obtain ⟨o, ho, hc, _⟩ := st.1
    exact ⟨o, ho, hc⟩
  · refine ⟨_, zipE_get (v := v) (by simpa using hv), fun T t h hT => ⟨T, t, rfl, hT⟩⟩
  · have hb' : b = s.heap.objs.size ∨ b = ax := by simpa using hb
    rcases hb' with rfl | rfl
    · exact .inl rfl
    · exact .inr hk
  · exact ktu_ne 1 hLs
  · intro h
    have h' : L = s.heap.objs.size ∨ L = ax := by simpa using h
    rcases h' with h | h
    · exact Nat.ne_of_lt hLs h
    · exact hax h
  · show b < h'.objs.size
    rw [hsz']
    have hb' : b = s.heap.objs.size ∨ b = ax := by simpa using hb
    rcases hb' with rfl | rfl
    · exact Nat.lt_add_of_pos_right (by decide)
    · exact Nat.lt_trans hlt (Nat.lt_add_of_pos_right (by decide))
  · have := Heap.lt_size (N p hp).1
    exact ⟨ktu_ne 1 this, Nat.ne_of_lt this⟩
end
theorem call_range_eq {prog : Program} {w : World} {A : Around} {E : Value → Shared → Prop} {s : Shared} {z : Int} {n : Nat} {t : Tok} {Q : Value → Shared → Prop} (hz : z = (n : Int)) (h : wpAny (model prog w) A (call (.type "range") [.int n t]) Q E s) : wpAny (model prog w) A (call (.type "range") [.int z t]) Q E s := by
  subst hz; exact h
/-! ### what a function that draws on the store gives -/
inductive SrcR (sa ca : Addr) (turn d : Int) (rest : List (Addr × Obj)) (P : Value → List (Addr × Obj) → Prop) (r : Value) (n : List (Addr × Obj)) : Prop
  | mk (t' : Int) (S' ex : List (Addr × Obj)) (z0 : n = S' ++ (ex ++ rest)) (z1 : Src sa ca t' S') (z2 : turn ≤ t') (z3 : t' ≤ turn + d) (z4 : Off2 sa ca ex) (z5 : Apart ex rest) (z6 : P r ex) : SrcR sa ca turn d rest P r n
theorem u_src {sa ca : Addr} {turn d : Int} {rest : List (Addr × Obj)} {Z : Value → List (Addr × Obj) → Prop} (P : PR) (h : ∀ r t' S' ex, Src sa ca t' S' → turn ≤ t' → t' ≤ turn + d → Off2 sa ca ex → Apart ex rest → Z r ex → P r (S' ++ (ex ++ rest))) (r : Value) (n : List (Addr × Obj)) (e : SrcR sa ca turn d rest Z r n) : P r n := by
  obtain ⟨t', S', ex, rfl, a, b, c, d, x, y⟩ := e
  exact h r t' S' ex a b c d x y
theorem Off2.app {sa ca : Addr} {a b : List (Addr × Obj)} (h : Off2 sa ca a) (k : Off2 sa ca b) : Off2 sa ca (a ++ b) := fun q hq => by
  rcases List.mem_append.mp hq with x | x
  · exact h q x
  · exact k q x
theorem Off2.cons {sa ca x : Addr} {o : Obj} {b : List (Addr × Obj)} (h1 : @Ne Nat x sa) (h2 : @Ne Nat x ca) (k : Off2 sa ca b) : Off2 sa ca ((x, o) :: b) := fun q hq => by
  rcases List.mem_cons.mp hq with rfl | hq
  · exact ⟨h1, h2⟩
  · exact k q hq
theorem Src.mem {sa ca : Addr} {t : Int} {S : List (Addr × Obj)} (h : Src sa ca t S) : (∃ o, (sa, o) ∈ S) ∧ ∃ o, (ca, o) ∈ S := by
  obtain ⟨t1, n1, n2, cvs, cs, rfl, _, _⟩ := h
  exact ⟨⟨_, List.mem_cons_self ..⟩, ⟨_, List.mem_cons_of_mem _ (List.mem_cons_self ..)⟩⟩
theorem Src.off {sa ca : Addr} {t t' : Int} {S S' : List (Addr × Obj)} (h : Src sa ca t S) (h' : Src sa ca t' S') {l : List (Addr × Obj)} (k : ∀ q ∈ l, ∀ r ∈ S, @Ne Nat q.1 r.1) : ∀ q ∈ l, ∀ r ∈ S', @Ne Nat q.1 r.1 := by
  obtain ⟨t1, n1, n2, cvs, cs, rfl, _, _⟩ := h
  obtain ⟨t1', n1', n2', cvs', cs', rfl, _, _⟩ := h'
  intro q hq r hr
  rcases List.mem_cons.mp hr with rfl | hr
  · exact k q hq (sa, listOf #[.ref ca, .int t t1] n1) (List.mem_cons_self ..)
  · rw [List.mem_singleton.mp hr]; exact k q hq (ca, listOf cvs.toArray n2) (List.mem_cons_of_mem _ (List.mem_cons_self ..))
theorem Off2.of {sa ca : Addr} {t : Int} {S l : List (Addr × Obj)} (h : Src sa ca t S) (k : ∀ q ∈ l, ∀ r ∈ S, @Ne Nat q.1 r.1) : Off2 sa ca l := fun q hq => by
  obtain ⟨⟨o, h1⟩, ⟨o', h2⟩⟩ := h.mem
  exact ⟨k q hq _ h1, k q hq _ h2⟩
theorem Src.keys {sa ca : Addr} {t : Int} {S : List (Addr × Obj)} (h : Src sa ca t S) : ∀ r ∈ S, r.1 = sa ∨ r.1 = ca := by
  obtain ⟨t1, n1, n2, cvs, cs, rfl, _, _⟩ := h
  intro r hr
  rcases List.mem_cons.mp hr with rfl | hr
  · exact .inl rfl
  · rw [List.mem_singleton.mp hr]; exact .inr rfl

theorem perm_one {α : Type} {S X : List α} {a : α} : ∀ q ∈ S ++ (a :: X), q ∈ a :: (S ++ X) := by
  intro q hq
  simp only [List.mem_append, List.mem_cons] at hq ⊢
  rcases hq with h | h | h <;> simp [h]
/-- the function's first cells, put behind the store -/
theorem Off2.cell {sa ca L : Addr} {t : Int} {S rest : List (Addr × Obj)} {o : Obj} {k : Nat} (hS : Src sa ca t S) (hr : Off2 sa ca rest) (hlt : ∀ q ∈ S ++ rest, q.1 < L) : Off2 sa ca ((L + k, o) :: rest) := by
  obtain ⟨⟨o1, h1⟩, ⟨o2, h2⟩⟩ := hS.mem
  have a1 : @LT.lt Nat _ sa L := hlt _ (List.mem_append_left _ h1)
  have a2 : @LT.lt Nat _ ca L := hlt _ (List.mem_append_left _ h2)
  exact Off2.cons (Nat.ne_of_gt (Nat.lt_of_lt_of_le a1 (Nat.le_add_right _ _))) (Nat.ne_of_gt (Nat.lt_of_lt_of_le a2 (Nat.le_add_right _ _))) hr
/-- a new object and the store's turn: the turn's end of a comprehension that draws -/
theorem cend_src {h₀ : Heap} {L : Addr} {m : Str → Option Value} {s₁ : Shared} {I C Dd D : Addr} {oI oC o : Obj} {m₂ : Str → Option Value} {ys : List Value} {P : List (Addr × Obj) → Prop} {h' : Heap} {tk : Nat} {S S1 n : List (Addr × Obj)} {sa ca : Addr} {t t1 : Int}
    (F : Fr h₀ L h' m) (N : News h₀ L h' ((D, o) :: (S ++ (I, oI) :: (C, oC) :: (Dd, LCg.lst ys) :: n))) (hoC : LCg.NsObj oC m₂) (hS : Src sa ca t S) (hS1 : Src sa ca t1 S1) (hoff : ∀ p ∈ S1 ++ n, (@Ne Nat p.1 I) ∧ (@Ne Nat p.1 C) ∧ (@Ne Nat p.1 Dd))
    (hlt : ∀ p ∈ S ++ (I, oI) :: (C, oC) :: (Dd, LCg.lst ys) :: n, p.1 < D) (r : P (S ++ ((D, o) :: n))) :
    CEnd h₀ L m s₁ [(I, oI)] C Dd ys P { s₁ with heap := h', toks := tk } := by
  refine cend1 F N (S ++ ((D, o) :: n)) hoC (by simp) (by simp) (by simp) (fun p hp => ?_) (fun p hp => ?_) r
  · simp only [List.mem_append, List.mem_cons] at hp ⊢
    rcases hp with h | h | h <;> simp [h]
  · rcases List.mem_append.mp hp with h | h
    · obtain ⟨⟨oa, h1⟩, ⟨ob, h2⟩⟩ := hS1.mem
      rcases hS.keys p h with e | e
      · rw [e]; exact hoff _ (List.mem_append_left _ h1)
      · rw [e]; exact hoff _ (List.mem_append_left _ h2)
    · rcases List.mem_cons.mp h with rfl | h
      · exact ⟨Nat.ne_of_gt (hlt (I, oI) (by simp)), Nat.ne_of_gt (hlt (C, oC) (by simp)), Nat.ne_of_gt (hlt (Dd, LCg.lst ys) (by simp))⟩
      · exact hoff p (List.mem_append_right _ h)
theorem off_src {sa ca I C Dd : Addr} {oI oC oD : Obj} {t : Int} {S n : List (Addr × Obj)} (hS : Src sa ca t S) (hoff : ∀ p ∈ S ++ n, (@Ne Nat p.1 I) ∧ (@Ne Nat p.1 C) ∧ (@Ne Nat p.1 Dd)) (h : Off2 sa ca n) : Off2 sa ca ((I, oI) :: (C, oC) :: (Dd, oD) :: n) := by
  obtain ⟨⟨oa, h1⟩, ⟨ob, h2⟩⟩ := hS.mem
  have z1 := hoff _ (List.mem_append_left _ h1)
  have z2 := hoff _ (List.mem_append_left _ h2)
  exact Off2.cons (Ne.symm z1.1) (Ne.symm z2.1) (Off2.cons (Ne.symm z1.2.1) (Ne.symm z2.2.1) (Off2.cons (Ne.symm z1.2.2) (Ne.symm z2.2.2) h))
theorem off_new {sa ca D : Addr} {o : Obj} {t : Int} {S n : List (Addr × Obj)} (hS : Src sa ca t S) (hlt : ∀ p ∈ S ++ n, p.1 < D) {l : List (Addr × Obj)} (h : Off2 sa ca l) : Off2 sa ca ((D, o) :: l) := by
  obtain ⟨⟨oa, h1⟩, ⟨ob, h2⟩⟩ := hS.mem
  exact Off2.cons (Nat.ne_of_gt (hlt _ (List.mem_append_left _ h1))) (Nat.ne_of_gt (hlt _ (List.mem_append_left _ h2))) h

noncomputable def LetsGood (ls : List (Int × Int × List Str)) : Prop := ls.length ≤ 7 ∧ ∀ l ∈ ls, 0 ≤ l.1 ∧ 0 ≤ l.2.1 ∧ ∃ k : Fin 32, l.2.2 = flagsOf k
theorem Upd.left {d : Addr} {o o' : Obj} {l l' : List (Addr × Obj)} (h : Upd d o o' l l') : ∀ {S : List (Addr × Obj)}, (∀ q ∈ S, q.1 ≠ d) → Upd d o o' (S ++ l) (S ++ l')
  | [], _ => h
  | p :: S, hS => .tail (hS p (List.mem_cons_self ..)) (Upd.left h fun q hq => hS q (List.mem_cons_of_mem _ hq))
theorem UpdF.left {d : Addr} {o : Obj} {l : List (Addr × Obj)} {g : Obj → List (Addr × Obj)} (h : UpdF d o l g) : ∀ {S : List (Addr × Obj)}, (∀ q ∈ S, q.1 ≠ d) → UpdF d o (S ++ l) (fun o' => S ++ g o')
  | [], _ => h
  | p :: S, hS => .tail (hS p (List.mem_cons_self ..)) (UpdF.left h fun q hq => hS q (List.mem_cons_of_mem _ hq))
theorem Src.ne {sa ca d : Addr} {t : Int} {S : List (Addr × Obj)} (h : Src sa ca t S) (h1 : @Ne Nat sa d) (h2 : @Ne Nat ca d) : ∀ q ∈ S, q.1 ≠ d := fun q hq => by
  rcases h.keys q hq with e | e <;> rw [e] <;> assumption
noncomputable def flag0 : List (Nat × Str × Tok) := [(0, Str.ofString "\\Seen", 1378), (1, Str.ofString "\\Draft", 1379), (2, Str.ofString "\\Answered", 1380), (3, Str.ofString "work", 1381), (4, Str.ofString "Work", 1382)]
theorem flag0_lt : ∀ r ∈ flag0, r.1 < 5 := by decide +kernel
noncomputable abbrev fV (r : Nat × Str × Tok) : Nat × Value := (r.1, .str r.2.1 r.2.2)
noncomputable def flagVals : List Value := flag0.map fun r => .str r.2.1 r.2.2
theorem flagVals_zip : zipE flagVals = flag0.map fV := rfl
theorem flags_at {P : Params} {g : Heap} (X : (heapK P).In g) : g.get? 820 = some (tupO flagVals 0) := X 820 _ (by kernel_rfl)
noncomputable def pickF (mk : Nat) (rs : List (Nat × Str × Tok)) : List Str := rs.filterMap fun r => if mk / 2 ^ r.1 % 2 = 1 then some r.2.1 else none
theorem pickF_all (mk : Nat) : pickF mk flag0 = flagsOf mk := rfl
inductive LetsInv (sa ca lo L : Addr) (turn : Int) (rest : List (Addr × Obj)) (k : Nat) (m : Str → Option Value) (n : List (Addr × Obj)) : Prop
  | mk (num uid : Int) (tn tu : Tok) (oc : Obj) (cv : Option Value) (lvs : List Value) (kk : Nat) (t1 : Int) (S1 ex1 : List (Addr × Obj)) (ls : List (Int × Int × List Str)) (z0 : Keep [(Str.ofString "found", .ref lo), (Str.ofString "number", .int num tn), (Str.ofString "uid", .int uid tu), (Str.ofString "source", .ref sa)] m) (z1 : n = S1 ++ ((lo, listOf lvs.toArray kk) :: (L + 1, oc) :: (ex1 ++ rest))) (z2 : oc.data = .cell cv) (z3 : Src sa ca t1 S1) (z4 : turn + 1 ≤ t1) (z5 : t1 + 3 * k ≤ turn + 22) (z6 : Off2 sa ca (ex1 ++ rest)) (z7 : Apart ex1 rest) (z8 : (∀ q ∈ ex1 ++ rest, @Ne Nat q.1 lo ∧ @Ne Nat q.1 (L + 1))) (z9 : DatAll ex1 lvs (ls.map letD)) (z10 : ls.length + k ≤ 7) (z11 : (∀ l ∈ ls, 0 ≤ l.1 ∧ 0 ≤ l.2.1 ∧ ∃ k : Fin 32, l.2.2 = flagsOf k)) (z12 : 0 ≤ num) (z13 : 0 ≤ uid) : LetsInv sa ca lo L turn rest k m n
theorem fbit {d : Int} {u : Nat} (h : 0 ≤ d) : ((d.fdiv (2 ^ ((u : Int).toNat))).fmod 2 = 1) ↔ (d.toNat / 2 ^ u % 2 = 1) := by
  obtain ⟨n, rfl⟩ := Int.eq_ofNat_of_zero_le h
  rw [Int.toNat_natCast, Int.toNat_natCast]
  have e1 : (2 : Int) ^ u = ((2 ^ u : Nat) : Int) := by push_cast; rfl
  rw [e1, ← Int.ofNat_fdiv, show (2 : Int) = ((2 : Nat) : Int) from rfl, ← Int.ofNat_fmod]
  omega
theorem pickF_snoc {mk : Nat} {dn : List (Nat × Str × Tok)} {r : Nat × Str × Tok} : pickF mk (dn ++ [r]) = pickF mk dn ++ (if mk / 2 ^ r.1 % 2 = 1 then [r.2.1] else []) := by
  unfold pickF
  rw [List.filterMap_append]
  congr 1
  by_cases h : mk / 2 ^ r.1 % 2 = 1
  · simp [h]
  · simp [h]
theorem flags_len (mk : Nat) : (flagsOf mk).length ≤ 5 := Nat.le_trans (List.length_filterMap_le ..) (by decide)
theorem dat_join {n : List (Addr × Obj)} : ∀ {vs us : List Value} {ds es : List Dat}, DatAll n vs ds → DatAll n us es → DatAll n (vs ++ us) (ds ++ es)
  | _, _, _, _, .nil, h => h
  | _, _, _, _, .cons a r, h => .cons a (dat_join r h)
theorem lets_end {g : Heap} {sa ca lo L I D2 D3 : Addr} {o o2 : Obj} {s₁ : Shared} {h' : Heap} {tk k : Nat} {m' : Str → Option Value} {turn t1 t2 a b : Int} {ta tb : Tok} {ys lvs : List Value} {kk k0 mk : Nat} {cv : Option Value} {Sc ex1 rest : List (Addr × Obj)} {ls : List (Int × Int × List Str)}
    (F : Fr g L h' m') (N : News g L h' ((D3, tupO [.int a ta, .int b tb, .ref D2] 0) :: (D2, tupO ys 0) :: (Sc ++ ((I, o) :: (lo, listOf (lvs ++ [Value.ref D3]).toArray kk) :: (L + 1, o2) :: (ex1 ++ rest)))))
    (km : Keep [(Str.ofString "found", .ref lo), (Str.ofString "number", .int a ta), (Str.ofString "uid", .int b tb), (Str.ofString "source", .ref sa)] m') (hcv : o2.data = .cell cv) (hS : Src sa ca t2 Sc) (e2 : t2 = t1 + 1 + 1 + 1) (a1 : turn + 1 ≤ t1) (a2 : t1 + 3 * ((k + 1 : Nat) : Int) ≤ turn + 22)
    (a3 : Off2 sa ca (ex1 ++ rest)) (a4 : Apart ex1 rest) (a5 : ∀ q ∈ ex1 ++ rest, @Ne Nat q.1 lo ∧ @Ne Nat q.1 (L + 1)) (a6 : DatAll ex1 lvs (ls.map letD)) (a7 : ls.length + (k + 1) ≤ 7) (a8 : ∀ l ∈ ls, 0 ≤ l.1 ∧ 0 ≤ l.2.1 ∧ ∃ k : Fin 32, l.2.2 = flagsOf k)
    (ha : 0 ≤ a) (hb : 0 ≤ b) (hys : StrsAre ys (flagsOf mk)) (hmk : mk < 32) (i1 : @Ne Nat sa I) (i2 : @Ne Nat ca I) (i3 : @Ne Nat lo I) (i4 : @Ne Nat (L + 1) I) (i5 : ∀ q ∈ ex1 ++ rest, @Ne Nat q.1 I)
    (hO : ∀ p ∈ Sc ++ ((I, o) :: (lo, listOf lvs.toArray k0) :: (L + 1, o2) :: (ex1 ++ rest)), p.1 < D2) (l3 : @LT.lt Nat _ D2 D3) :
    UnrEndW g L s₁ [(I, o)] (fun m' n' => LetsInv sa ca lo L turn rest k m' n' ∧ ∀ q ∈ n', @Ne Nat q.1 I) { s₁ with heap := h', toks := tk } := by
  have hO3 : ∀ p ∈ Sc ++ ((I, o) :: (lo, listOf lvs.toArray k0) :: (L + 1, o2) :: (ex1 ++ rest)), p.1 < D3 := fun p hp => Nat.lt_trans (hO p hp) l3
  have hsub : ∀ q ∈ (D3, tupO [.int a ta, .int b tb, .ref D2] 0) :: (D2, tupO ys 0) :: ex1 ++ rest, q = (D3, tupO [.int a ta, .int b tb, .ref D2] 0) ∨ q = (D2, tupO ys 0) ∨ q ∈ ex1 ++ rest := fun q hq => by
    simp only [List.mem_append, List.mem_cons, List.cons_append] at hq ⊢
    exact hq
  have new : ∀ d, (∀ q ∈ ex1 ++ rest, @Ne Nat q.1 d) → @LT.lt Nat _ d D2 → ∀ q ∈ (D3, tupO [.int a ta, .int b tb, .ref D2] 0) :: (D2, tupO ys 0) :: ex1 ++ rest, @Ne Nat q.1 d := fun d h1 h2 q hq => by
    rcases hsub q hq with rfl | rfl | h
    · exact Nat.ne_of_gt (Nat.lt_trans h2 l3)
    · exact Nat.ne_of_gt h2
    · exact h1 q h
  have inS : ∀ q ∈ Sc, q.1 = sa ∨ q.1 = ca := hS.keys
  refine ⟨h', tk, m', Sc ++ ((lo, listOf (lvs ++ [Value.ref D3]).toArray kk) :: (L + 1, o2) :: (((D3, tupO [.int a ta, .int b tb, .ref D2] 0) :: (D2, tupO ys 0) :: ex1) ++ rest)), rfl, F, fun q hq => N q ?_, ?_, ⟨a, b, ta, tb, o2, cv, lvs ++ [Value.ref D3], kk, t2, Sc, (D3, tupO [.int a ta, .int b tb, .ref D2] 0) :: (D2, tupO ys 0) :: ex1, ls ++ [(a, b, flagsOf mk)],
    km, rfl, hcv, hS, by omega, by omega, ?_, ?_, ?_, ?_, ?_, ?_, ha, hb⟩, ?_⟩
  · simp only [List.mem_append, List.mem_cons, List.cons_append, List.nil_append] at hq ⊢
    rcases hq with h | h | h | h | h | h | h | h <;> simp [h]
  · intro q hq r hr
    rw [List.mem_singleton.mp hr]
    simp only [List.mem_append, List.mem_cons, List.cons_append] at hq
    rcases hq with h | rfl | rfl | rfl | rfl | h | h
    · rcases inS q h with e | e <;> rw [e] <;> assumption
    · exact i3
    · exact i4
    · exact Nat.ne_of_gt (hO3 (I, o) (by simp))
    · exact Nat.ne_of_gt (hO (I, o) (by simp))
    · exact i5 q (List.mem_append_left _ h)
    · exact i5 q (List.mem_append_right _ h)
  · exact off_new hS hO3 (off_new hS hO a3)
  · exact Apart.cons (fun r hr => Nat.ne_of_gt (hO3 r (by simp [hr]))) (Apart.cons (fun r hr => Nat.ne_of_gt (hO r (by simp [hr]))) a4)
  · intro q hq
    exact ⟨new lo (fun q hq => (a5 q hq).1) (hO (lo, listOf lvs.toArray k0) (by simp)) q hq, new (L + 1) (fun q hq => (a5 q hq).2) (hO (L + 1, o2) (by simp)) q hq⟩
  · rw [List.map_append]
    refine dat_join (a6.mono fun q hq => List.mem_cons_of_mem _ (List.mem_cons_of_mem _ hq)) (.cons (.tuple (List.mem_cons_self ..) (.cons (.int a ta) (.cons (.int b tb) (.cons (.tuple (List.mem_cons_of_mem _ (List.mem_cons_self ..)) (strs_dat hys)) .nil)))) .nil)
  · rw [List.length_append, List.length_singleton]; omega
  · intro l hl
    rcases List.mem_append.mp hl with h | h
    · exact a8 l h
    · rw [List.mem_singleton.mp h]; exact ⟨ha, hb, ⟨mk, hmk⟩, rfl⟩
  · intro q hq
    simp only [List.mem_append, List.mem_cons, List.cons_append] at hq
    rcases hq with h | rfl | rfl | rfl | rfl | h | h
    · rcases inS q h with e | e <;> rw [e] <;> assumption
    · exact i3
    · exact i4
    · exact Nat.ne_of_gt (hO3 (I, o) (by simp))
    · exact Nat.ne_of_gt (hO (I, o) (by simp))
    · exact i5 q (List.mem_append_left _ h)
    · exact i5 q (List.mem_append_right _ h)

/-! ### the words that are wanted -/
noncomputable def sortL (ns : List Int) : List Int := ns.mergeSort (fun a b => decide (a ≤ b))
theorem sortL_perm (ns : List Int) : (sortL ns).Perm ns := List.mergeSort_perm ns _
theorem sortL_pw (ns : List Int) : (sortL ns).Pairwise (· ≤ ·) := by
  have := List.pairwise_mergeSort (le := fun a b : Int => decide (a ≤ b)) (fun a b c h1 h2 => by simp only [decide_eq_true_eq] at *; omega) (fun a b => by simp only [Bool.or_eq_true, decide_eq_true_eq]; omega) ns
  exact this.imp fun h => by simpa using h
theorem sorted_unique : ∀ {a b : List Int}, a.Perm b → a.Pairwise (· ≤ ·) → b.Pairwise (· ≤ ·) → a = b
  | [], b, p, _, _ => (List.Perm.nil_eq p)
  | x :: a, [], p, _, _ => absurd p.length_eq (by simp)
  | x :: a, y :: b, p, h1, h2 => by
    have h1' := List.pairwise_cons.mp h1
    have h2' := List.pairwise_cons.mp h2
    have hx : x ∈ y :: b := p.subset (List.mem_cons_self ..)
    have hy : y ∈ x :: a := p.symm.subset (List.mem_cons_self ..)
    have e : x = y := by
      rcases List.mem_cons.mp hx with h | h
      · exact h
      · rcases List.mem_cons.mp hy with h' | h'
        · exact h'.symm
        · have := h1'.1 y h'; have := h2'.1 x h; omega
    subst e
    rw [sorted_unique (List.Perm.cons_inv p) h1'.2 h2'.2]
theorem sort_eq {ns ns' : List Int} (p : ns'.Perm ns) (h : ns'.Pairwise (· ≤ ·)) : ns' = sortL ns := sorted_unique (p.trans (sortL_perm ns).symm) h (sortL_pw ns)
noncomputable def minL (ns : List Int) : Int := (sortL ns).headD 0
noncomputable def maxL (ns : List Int) : Int := (sortL ns).getLastD 0
theorem min_eq {ns : List Int} {M : Int} (h1 : M ∈ ns) (h2 : ∀ a, a ∈ ns → M ≤ a) : M = minL ns := by
  have hp := sortL_perm ns
  have hw := sortL_pw ns
  have hm : M ∈ sortL ns := hp.symm.subset h1
  unfold minL
  cases hs : sortL ns with
  | nil => rw [hs] at hm; cases hm
  | cons x r =>
    rw [hs] at hm hw hp
    have hx : x ∈ ns := hp.subset (List.mem_cons_self ..)
    have a1 := h2 x hx
    rcases List.mem_cons.mp hm with e | e
    · exact e
    · have a2 := (List.pairwise_cons.mp hw).1 M e
      show M = x
      omega
theorem max_eq {ns : List Int} {M : Int} (h1 : M ∈ ns) (h2 : ∀ a, a ∈ ns → a ≤ M) : M = maxL ns := by
  have hp := sortL_perm ns
  have hw := sortL_pw ns
  have hm : M ∈ sortL ns := hp.symm.subset h1
  unfold maxL
  rcases List.eq_nil_or_concat (sortL ns) with e | ⟨r, x, e⟩
  · rw [e] at hm; cases hm
  · rw [List.concat_eq_append] at e
    rw [e] at hm hw hp ⊢
    have hx : x ∈ ns := hp.subset (by simp)
    have a1 := h2 x hx
    have a2 : M ≤ x := by
      rcases List.mem_append.mp hm with h | h
      · exact (List.pairwise_append.mp hw).2.2 M h x (by simp)
      · rw [List.mem_singleton.mp h]; exact Int.le_refl _
    rw [List.getLastD_concat]
    omega
noncomputable abbrev pairW (x : String) (d : Dat) : Dat := .tuple [.str (Str.ofString x), d]
noncomputable def wMin (ns : List Int) (ws : List Str) : List Dat := if ws.any (· == Str.ofString "MIN") = true then [pairW "MIN" (.int (minL ns))] else []
noncomputable def wMax (ns : List Int) (ws : List Str) : List Dat := if ws.any (· == Str.ofString "MAX") = true then [pairW "MAX" (.int (maxL ns))] else []
noncomputable def wAll (ns : List Int) (ws : List Str) : List Dat := if ws.any (· == Str.ofString "ALL") = true ∨ ws = [] then [pairW "ALL" (.tuple ((runsOf (sortL ns)).map pairD))] else []
noncomputable def wCount (ns : List Int) (ws : List Str) : List Dat := if ws.any (· == Str.ofString "COUNT") = true then [pairW "COUNT" (.int (ns.length : Int))] else []
noncomputable def wantD (ns : List Int) (ws : List Str) : List Dat := (if ns = [] then [] else wMin ns ws ++ wMax ns ws ++ wAll ns ws) ++ wCount ns ws
/-- runs: the first one's low, the last one's high -/
theorem stepR_ends {out : List (Int × Int)} {n x y : Int} (h1 : (out.head?.map (·.1)) = some x) : ((stepR out n).head?.map (·.1)) = some x ∧ ((stepR out n).getLast?.map (·.2)) = some n := by
  rcases List.eq_nil_or_concat out with rfl | ⟨o, l, rfl⟩
  · cases h1
  · rw [List.concat_eq_append] at h1 ⊢
    by_cases hn : n ≤ l.2 + 1
    · rw [stepR_in hn]
      refine ⟨?_, by simp⟩
      cases o <;> simpa using h1
    · rw [stepR_out hn]
      refine ⟨?_, by simp⟩
      cases o <;> simpa using h1
theorem runs_ends : ∀ (r : List Int) (out : List (Int × Int)) {x : Int}, (out.head?.map (·.1)) = some x → ((r.foldl stepR out).head?.map (·.1)) = some x ∧ ((r.foldl stepR out).getLast?.map (·.2)) = (match r.getLast? with | some n => some n | none => out.getLast?.map (·.2))
  | [], out, x, h => ⟨h, rfl⟩
  | n :: r, out, x, h => by
    have h1 := stepR_ends (n := n) (y := 0) h
    have h2 := runs_ends r (stepR out n) h1.1
    refine ⟨h2.1, ?_⟩
    rw [List.foldl_cons, h2.2]
    cases hr : r.getLast? with
    | none =>
      have : r = [] := by cases r with | nil => rfl | cons a b => simp at hr
      subst this
      exact h1.2
    | some z => rw [List.getLast?_cons, hr]; rfl
theorem runs_min {ns : List Int} (h : ns ≠ []) : ∃ p r, runsOf (sortL ns) = p :: r ∧ p.1 = minL ns := by
  cases hs : sortL ns with
  | nil => exact absurd (List.Perm.eq_nil (hs ▸ (sortL_perm ns).symm)) h
  | cons x r =>
    have h1 := (runs_ends r [(x, x)] (x := x) rfl).1
    unfold runsOf
    rw [List.foldl_cons, stepR_nil]
    cases hf : r.foldl stepR [(x, x)] with
    | nil => rw [hf] at h1; cases h1
    | cons p q =>
      rw [hf] at h1
      exact ⟨p, q, rfl, by unfold minL; rw [hs]; simpa using h1⟩
theorem runs_max {ns : List Int} (h : ns ≠ []) : ∃ r p, runsOf (sortL ns) = r ++ [p] ∧ p.2 = maxL ns := by
  cases hs : sortL ns with
  | nil => exact absurd (List.Perm.eq_nil (hs ▸ (sortL_perm ns).symm)) h
  | cons x r =>
    have h1 := (runs_ends r [(x, x)] (x := x) rfl)
    unfold runsOf
    rw [List.foldl_cons, stepR_nil]
    rcases List.eq_nil_or_concat (r.foldl stepR [(x, x)]) with hf | ⟨o, p, hf⟩
    · rw [hf] at h1; cases h1.1
    · rw [List.concat_eq_append] at hf
      rw [hf] at h1 ⊢
      refine ⟨o, p, rfl, ?_⟩
      have h2 := h1.2
      unfold maxL
      rw [hs]
      rw [List.getLast?_concat] at h2
      cases hr : r.getLast? with
      | none =>
        have : r = [] := by cases r with | nil => rfl | cons a b => simp at hr
        subst this
        simpa using h2
      | some z =>
        rw [hr] at h2
        rw [List.getLastD_cons, List.getLastD_eq_getLast?, hr]
        simpa using h2
/-- a list under way, and what it was made of -/
inductive PairsAt (g : Heap) (L : Addr) (l : List (Str × Value)) (base : List (Addr × Obj)) (lo : Addr) (ds : List Dat) (s₀ s' : Shared) : Prop
  | mk (h' : Heap) (tk : Nat) (m' : Str → Option Value) (vs : List Value) (k : Nat) (ex : List (Addr × Obj)) (z0 : s' = { s₀ with heap := h', toks := tk }) (z1 : Fr g L h' m') (z2 : Keep l m') (z3 : News g L h' ((lo, listOf vs.toArray k) :: (ex ++ base))) (z4 : Apart ex base) (z5 : (∀ q ∈ ex ++ base, @Ne Nat q.1 lo)) (z6 : DatAll ex vs ds) : PairsAt g L l base lo ds s₀ s'
theorem PairsAt.mk' {g h' : Heap} {L lo : Addr} {l : List (Str × Value)} {base all ex : List (Addr × Obj)} {ds : List Dat} {s₀ : Shared} {tk k : Nat} {m' : Str → Option Value} {vs : List Value} (F : Fr g L h' m') (N : News g L h' all) (km : Keep l m') (hlo : (lo, listOf vs.toArray k) ∈ all) (hex : ∀ q ∈ ex ++ base, q ∈ all)
    (hap : Apart ex base) (hne : ∀ q ∈ ex ++ base, @Ne Nat q.1 lo) (hd : DatAll ex vs ds) : PairsAt g L l base lo ds s₀ { s₀ with heap := h', toks := tk } :=
  ⟨h', tk, m', vs, k, ex, rfl, F, km, fun q hq => by
    rcases List.mem_cons.mp hq with rfl | hq
    · exact N _ hlo
    · exact N _ (hex q hq), hap, hne, hd⟩
/-- one pair more -/
theorem PairsAt.one {g h' : Heap} {L lo D : Addr} {l : List (Str × Value)} {base all ex : List (Addr × Obj)} {ds : List Dat} {d : Dat} {s₀ : Shared} {tk k : Nat} {m' : Str → Option Value} {vs : List Value} {x : String} {v : Value} {t : Tok} {ex2 : List (Addr × Obj)} (F : Fr g L h' m') (N : News g L h' all) (km : Keep l m') (hlo : (lo, listOf (vs ++ [Value.ref D]).toArray k) ∈ all)
    (hD : (D, tupO [.str (Str.ofString x) t, v] 0) ∈ all) (hex2 : ∀ q ∈ ex2, q ∈ all) (hex : ∀ q ∈ ex ++ base, q ∈ all) (hap : Apart ex base) (hne : ∀ q ∈ ex ++ base, @Ne Nat q.1 lo) (ha2 : Apart ex2 base) (hn2 : ∀ q ∈ ex2, @Ne Nat q.1 lo) (hDa : ∀ r ∈ base, @Ne Nat D r.1) (hDl : @Ne Nat D lo) (hv : DatIn ex2 v d) (hd : DatAll ex vs ds) : PairsAt g L l base lo (ds ++ [pairW x d]) s₀ { s₀ with heap := h', toks := tk } :=
  PairsAt.mk' (ex := (D, tupO [.str (Str.ofString x) t, v] 0) :: (ex2 ++ ex)) F N km hlo (fun q hq => by
    simp only [List.mem_append, List.mem_cons, List.cons_append] at hq
    rcases hq with rfl | (h | h) | h
    · exact hD
    · exact hex2 q h
    · exact hex q (List.mem_append_left _ h)
    · exact hex q (List.mem_append_right _ h)) (Apart.cons hDa (ha2.app hap)) (fun q hq => by
    simp only [List.mem_append, List.mem_cons, List.cons_append] at hq
    rcases hq with rfl | (h | h) | h
    · exact hDl
    · exact hn2 q h
    · exact hne q (List.mem_append_left _ h)
    · exact hne q (List.mem_append_right _ h))
    (dat_join (hd.mono fun q hq => List.mem_cons_of_mem _ (List.mem_append_right _ hq)) (.cons (.tuple (List.mem_cons_self ..) (.cons (.str _ t) (.cons (hv.mono fun q hq => List.mem_cons_of_mem _ (List.mem_append_left _ hq)) .nil))) .nil))
theorem wMin_len {ns : List Int} {ws : List Str} : (wMin ns ws).length ≤ 1 := by unfold wMin; split <;> simp
theorem wMax_len {ns : List Int} {ws : List Str} : (wMax ns ws).length ≤ 1 := by unfold wMax; split <;> simp
theorem wAll_len {ns : List Int} {ws : List Str} : (wAll ns ws).length ≤ 1 := by unfold wAll; split <;> simp
theorem wThree_len {ns : List Int} {ws : List Str} : (if ns = [] then [] else wMin ns ws ++ wMax ns ws ++ wAll ns ws).length ≤ 3 := by
  have h1 := wMin_len (ns := ns) (ws := ws)
  have h2 := wMax_len (ns := ns) (ws := ws)
  have h3 := wAll_len (ns := ns) (ws := ws)
  split
  · simp
  · simp only [List.length_append]; omega
theorem count_yes {ns : List Int} {ws : List Str} (h : (ws.any fun x => x == Str.ofString "COUNT") = true) : wantD ns ws = (if ns = [] then [] else wMin ns ws ++ wMax ns ws ++ wAll ns ws) ++ [pairW "COUNT" (.int (ns.length : Int))] := by unfold wantD; rw [show wCount ns ws = [pairW "COUNT" (.int (ns.length : Int))] from if_pos h]
theorem count_no {ns : List Int} {ws : List Str} (h : (ws.any fun x => x == Str.ofString "COUNT") = false) : wantD ns ws = (if ns = [] then [] else wMin ns ws ++ wMax ns ws ++ wAll ns ws) := by unfold wantD; rw [show wCount ns ws = [] from if_neg (by rw [h]; decide), List.append_nil]
theorem min_yes {ns : List Int} {ws : List Str} (h : (ws.any fun x => x == Str.ofString "MIN") = true) : wMin ns ws = [] ++ [pairW "MIN" (.int (minL ns))] := by unfold wMin; rw [if_pos h]; rfl
theorem min_no {ns : List Int} {ws : List Str} (h : (ws.any fun x => x == Str.ofString "MIN") = false) : wMin ns ws = [] := by unfold wMin; rw [if_neg (by rw [h]; decide)]
theorem max_yes {ns : List Int} {ws : List Str} (h : (ws.any fun x => x == Str.ofString "MAX") = true) : wMin ns ws ++ wMax ns ws = wMin ns ws ++ [pairW "MAX" (.int (maxL ns))] := by unfold wMax; rw [if_pos h]
theorem max_no {ns : List Int} {ws : List Str} (h : (ws.any fun x => x == Str.ofString "MAX") = false) : wMin ns ws ++ wMax ns ws = wMin ns ws := by unfold wMax; rw [if_neg (by rw [h]; decide), List.append_nil]
theorem all_yes {ns : List Int} {ws : List Str} (h : (ws.any fun x => x == Str.ofString "ALL") = true ∨ ws = []) : wMin ns ws ++ wMax ns ws ++ wAll ns ws = wMin ns ws ++ wMax ns ws ++ [pairW "ALL" (.tuple ((runsOf (sortL ns)).map pairD))] := by unfold wAll; rw [if_pos h]
theorem all_no {ns : List Int} {ws : List Str} (h : ¬ ((ws.any fun x => x == Str.ofString "ALL") = true ∨ ws = [])) : wMin ns ws ++ wMax ns ws ++ wAll ns ws = wMin ns ws ++ wMax ns ws := by unfold wAll; rw [if_neg h, List.append_nil]

/-! ### a def's contract where an argument is a list that stood before -/
noncomputable def CtL (w : World) (p : Program) (loose : List Str) (mean : ExcName → Option Value) (mg mb : Str → Option Value) (f : Addr) (vs : List Value) (a : Addr) (items : Array Value) (news : List (Addr × Obj)) (need : Nat) (R : Value → List (Addr × Obj) → Prop) : Prop :=
  ∀ (dp un : Nat) (gd : Option (List Code)) (cn : Str) (cs : Scope) (a' : Addr) (ccd : Value) (cl : List (Str × Addr)) (outer : List Env) (A₀ : Around) (base h₀ : Heap) (L : Addr) (m : Str → Option Value) (s : Shared) (Q E : Value → Shared → Prop),
    h₀.IsList a items → Below A₀ base outer h₀ → Fr h₀ L s.heap m → (heapK w.params).In h₀ → News h₀ L s.heap news → Top p loose mean mg mb h₀ → cs.kind = .function → dp + need < 1000 → un + 8 * need + 400 < 9900 →
    (∀ r news' h' tk', R r news' → Fr h₀ L h' m → News h₀ L h' news' → Q r { s with heap := h', toks := tk' }) →
    wpAny (model (OpenRow.toRowW (OpenLaw.row PySem.Challenge.rw_pq0955_01)).prog w) (ktrTop dp un gd cn cs L a' ccd cl outer) (call (.ref f) vs) Q E s
section
variable {w : World} {p : Program} {loose : List Str} {mean : ExcName → Option Value} {mg mb : Str → Option Value} {f : Addr} {vs : List Value} {news : List (Addr × Obj)} {k : Nat} {R : Value → List (Addr × Obj) → Prop}
  {name qual : Str} {params : Arguments} {body : List Stmt} {scope : Scope} {pm cdv : Value} {a : Addr} {items : Array Value}
theorem ct_of_bodyL {binds : List (Str × Value)} (ho : (heapK w.params).lookup f = some ⟨.type "function", none, .func (fnOf name qual params body scope .none .none .none pm none cdv .none), #[]⟩) (hcd : codeIn (heapK w.params) cdv qual = true)
    (hbind : bindArgs (fnOf name qual params body scope .none .none .none pm none cdv .none) ⟨vs, []⟩ = pure binds) (hloc : ∀ y ∈ binds, scope.names.lookup y.1 = some .local)
    (h : ∀ (dp un : Nat) (gd : Option (List Code)) (outer : List Env) (A₀ : Around) (base g : Heap) (L : Addr) (s : Shared),
      g.IsList a items → Below A₀ base outer g → Fr g L s.heap (mOf binds.reverse) → (heapK w.params).In g → News g L s.heap news → Top p loose mean mg mb g → dp + k < 1000 → un + 8 * k + 400 < 9900 →
      wpAny (model (OpenRow.toRowW (OpenLaw.row PySem.Challenge.rw_pq0955_01)).prog w) (ktrTop dp un gd qual scope L f cdv [] outer) (execs body (envOf qual scope L f cdv)) (Back g L s R) (fun _ _ => False) s)
    (hco : scope.isCoroutine = false) (hgen : scope.isGenerator = false) (hk : scope.kind = .function) (hcell : ∀ x ∈ scope.names, x.2 ≠ .cell) : CtL w p loose mean mg mb f vs a items news (k + 1) R := by
  intro dp un gd cn cs a' ccd cl outer A₀ base h₀ L m s Q E hl B F X N T hck hd hu hret
  refine wpAny_call (code_def B F X N T rfl rfl hck ho hcd (by show dp < 1000; omega) (BindsTo.of_eq hbind) hloc (fun g L' h₁ FG F' N' B' X' T' => ?_) hco hgen hk hcell)
  rw [mOf_eq] at F'
  refine wpAny_mono (h (dp + 1) (un + 3) gd (envX cn cs L a' ccd cl :: outer) _ base g L' _ (hl.at fun o e => FG.keep _ o e) B' F' X' N' T' (by omega) (by omega)) (fun fl s' hb => ?_) fun _ _ x => x.elim
  obtain ⟨h', tk', m', news', rfl, F₁, N₁, r⟩ := hb
  exact ⟨L', m', news', F₁, N₁, fun F₂ N₂ => hret _ news' h' tk' r F₂ N₂⟩
end

section
variable {prog : Program} {w : World} {A : Around} {E : Value → Shared → Prop} {s : Shared} {h₀ : Heap} {L : Addr} {m : Str → Option Value} {env : Env} {target elt iter : Expr} {ct : Option Expr} {scope : Scope} {cl : List (Str × Addr)} {pos : Pos} {Fin : Shared → List Value → List (Addr × Obj) → Prop}
theorem draws_str (hh : A.handled = none) (it : Addr) (x : Str) (t : Tok) :
    Draws prog w A it [it] x.cps.size (fun i v => ∃ c u, x.cps[i]? = some c ∧ v = .str ⟨#[c]⟩ u) (fun i h => h.IsStrIter it (strIterType x) x t i) := by
  unfold strIterType
  split
  · exact Draws.strAscii hh it x t
  · exact Draws.strWide hh it x t
/-- enumerate over a text -/
theorem src_enumS {elts : List Expr} {kk : Nat} {tp : Pos} {x : Str} {tx : Tok} {news : List (Addr × Obj)} (B : Itm → List (Addr × Obj) → (Str → Option Value) → Prop) (J : List Itm → List Value → List (Addr × Obj) → Prop)
    (hh : A.handled = none) (F : Fr h₀ L s.heap m) (N : News h₀ L s.heap news) (hsz : x.length ≤ 1000)
    (asg : Takes prog w A h₀ (.Tuple elts kk tp) scope cl env B J) (J0 : J ((zipS x).map eSign) [] news)
    (turn : ∀ I g, Turns prog w A h₀ L m elt ct scope cl env (fun _ => [(I + 1, "enumerate"), (I, strIterType x)]) B J { s with heap := g }) (fin : ∀ g ys news', J [] ys news' → Fin { s with heap := g } ys news') :
    wpAny (model prog w) A (call (.type "enumerate") [.str x tx]) (fun xv s₁ => wpAny (model prog w) A (pyIter xv) (fun it s₂ => CompAt prog w A h₀ L m env (.Tuple elts kk tp) elt ct scope cl Fin it s₂) E s₁) E s := by
  have hLs : L < s.heap.objs.size := F.ns.lt
  refine call_enumerate_str fun h' hE hI hsz' hkp => ?_
  refine src_enumD (s := { s with heap := h' }) (it := s.heap.objs.size) (kind := strIterType x) (fp := [s.heap.objs.size]) (xs := (zipS x).map eSign) (keep := []) B J (draws_str (A := A.in1) hh s.heap.objs.size x tx) (Nat.succ_ne_self _) ?_ (by simp) hE hI (fun i h st => ?_)
    (by simp [zipS]) (Nat.le_trans (show x.cps.size ≤ 1000 from hsz) (by decide)) (fun i v hv => ?_) (ktu_new F (Nat.le_add_right _ _)) (ktu_new F (Nat.le_refl _)) (fun b hb => ?_) ?_ ?_ (fun b hb => ?_) (fun p hp => ?_) (F.keeps hkp) (N.grown hkp) asg J0 (fun _ _ _ _ q hq => nomatch hq) (fun I => turn s.heap.objs.size h' I) (fun ys news' j => fin h' ys news' j)
  · intro h
    have h' : s.heap.objs.size + 1 = s.heap.objs.size := by simpa using h
    exact Nat.succ_ne_self _ h'
  · obtain ⟨o, ho, hc, _⟩ := st
    exact ⟨o, ho, hc⟩
  · obtain ⟨c, u, hc, rfl⟩ := hv
    refine ⟨_, zipS_get hc, fun T t h hT => ⟨T, t, _, rfl, ?_, hT⟩⟩
    first | exact ⟨u, rfl⟩ | exact .str _ _ | trivial
  · exact .inl (by simpa using hb)
  · exact ktu_ne 1 hLs
  · intro h
    have h' : L = s.heap.objs.size := by simpa using h
    exact Nat.ne_of_lt hLs h'
  · show b < h'.objs.size
    rw [hsz']
    have hb' : b = s.heap.objs.size := by simpa using hb
    rw [hb']
    exact Nat.lt_add_of_pos_right (by decide)
  · have := Heap.lt_size (N p hp).1
    exact ⟨ktu_ne 1 this, Nat.ne_of_lt this⟩
end
section
variable {prog : Program} {w : World} {A : Around} {E : Value → Shared → Prop} {s : Shared} {h₀ : Heap} {L : Addr} {m : Str → Option Value} {env : Env} {target elt iter : Expr} {ct : Option Expr} {scope : Scope} {cl : List (Str × Addr)} {pos : Pos} {Fin : Shared → List Value → List (Addr × Obj) → Prop}
/-- enumerate over a list of the ledger's -/
theorem src_enumL {elts : List Expr} {kk : Nat} {tp : Pos} {ax : Addr} {vs : List Value} {ka : Nat} {news : List (Addr × Obj)} (B : Itm → List (Addr × Obj) → (Str → Option Value) → Prop) (J : List Itm → List Value → List (Addr × Obj) → Prop)
    (hh : A.handled = none) (F : Fr h₀ L s.heap m) (N : News h₀ L s.heap news) (hm : (ax, listOf vs.toArray ka) ∈ news) (hsz : vs.length ≤ 1000)
    (asg : Takes prog w A h₀ (.Tuple elts kk tp) scope cl env B J) (J0 : J ((zipE vs).map ePair) [] news) (hJk : ∀ r ys news, J r ys news → (ax, listOf vs.toArray ka) ∈ news)
    (turn : ∀ I g, Turns prog w A h₀ L m elt ct scope cl env (fun _ => [(I + 1, "enumerate"), (I, "list_iterator")]) B J { s with heap := g }) (fin : ∀ g ys news', J [] ys news' → Fin { s with heap := g } ys news') :
    wpAny (model prog w) A (call (.type "enumerate") [.ref ax]) (fun xv s₁ => wpAny (model prog w) A (pyIter xv) (fun it s₂ => CompAt prog w A h₀ L m env (.Tuple elts kk tp) elt ct scope cl Fin it s₂) E s₁) E s := by
  have hax := N _ hm
  have hl : s.heap.IsList ax vs.toArray := ⟨_, hax.1, rfl, ka, rfl⟩
  have hlt : ax < s.heap.objs.size := Heap.lt_size hax.1
  have hLs : L < s.heap.objs.size := F.ns.lt
  refine call_enumerate_list hl fun h' hE hI hsz' hkp => ?_
  refine src_enumD (s := { s with heap := h' }) (it := s.heap.objs.size) (kind := "list_iterator") (fp := [s.heap.objs.size, ax]) (xs := (zipE vs).map ePair) (keep := [(ax, listOf vs.toArray ka)]) B J (Draws.list (A := A.in1) hh s.heap.objs.size ax (Nat.ne_of_lt hlt) vs.toArray) (Nat.succ_ne_self _) ?_ (by simp) hE ⟨hI, hl.at fun o e => hkp ax o e⟩ (fun i h st => ?_)
    (by simp [zipE]) (by rw [List.size_toArray]; exact Nat.le_trans hsz (by decide)) (fun i v hv => ?_) (ktu_new F (Nat.le_add_right _ _)) (ktu_new F (Nat.le_refl _)) (fun b hb => ?_) ?_ ?_ (fun b hb => ?_) (fun p hp => ?_) (F.keeps hkp) (N.grown hkp) asg J0 (fun r ys news j q hq => by rw [List.mem_singleton.mp hq]; exact hJk _ _ _ j) (fun I => turn s.heap.objs.size h' I) (fun ys news' j => fin h' ys news' j)
  · intro h
    have h' : s.heap.objs.size + 1 = s.heap.objs.size ∨ s.heap.objs.size + 1 = ax := by simpa using h
    rcases h' with h | h
    · exact Nat.succ_ne_self _ h
    · exact absurd hlt (by rw [← h]; exact Nat.not_lt.mpr (Nat.le_succ _))
  · obtain ⟨o, ho, hc, _⟩ := st.1
    exact ⟨o, ho, hc⟩
  · refine ⟨_, zipE_get (v := v) (by simpa using hv), fun T t h hT => ⟨T, t, rfl, hT⟩⟩
  · have hb' : b = s.heap.objs.size ∨ b = ax := by simpa using hb
    rcases hb' with rfl | rfl
    · exact .inl rfl
    · exact .inr (.inl ⟨_, List.mem_singleton.mpr rfl⟩)
  · exact ktu_ne 1 hLs
  · intro h
    have h' : L = s.heap.objs.size ∨ L = ax := by simpa using h
    rcases h' with h | h
    · exact Nat.ne_of_lt hLs h
    · exact hax.2.1 h.symm
  · show b < h'.objs.size
    rw [hsz']
    have hb' : b = s.heap.objs.size ∨ b = ax := by simpa using hb
    rcases hb' with rfl | rfl
    · exact Nat.lt_add_of_pos_right (by decide)
    · exact Nat.lt_trans hlt (Nat.lt_add_of_pos_right (by decide))
  · have := Heap.lt_size (N p hp).1
    exact ⟨ktu_ne 1 this, Nat.ne_of_lt this⟩
end
noncomputable def zipN (n : Nat) (vs : List Value) : List (Nat × Value) := (vs.zipIdx n).map fun q => (q.2, q.1)
theorem zipN_cons {n : Nat} {v : Value} {vs : List Value} : zipN n (v :: vs) = (n, v) :: zipN (n + 1) vs := rfl
theorem zipE_zipN {vs : List Value} : zipE vs = zipN 0 vs := rfl

/-! ### the law's own trees -/
section
variable (w : World) (p : Program) (loose : List Str) (mean : ExcName → Option Value) (mg mb : Str → Option Value)
noncomputable def TreeAt (z dm : Int) (k : Nat) : Prop := ∀ (S rest : List (Addr × Obj)) (sa ca : Addr) (turn : Int) (t2 : Tok), Src sa ca turn S → @Ne Nat sa ca → Off2 sa ca rest → 0 ≤ turn → turn + dm ≤ 900 →
  Ct w p loose mean mg mb 847 [.ref sa, .int z t2] (S ++ rest) k (SrcR sa ca turn dm rest fun r ex => ∃ t : T, t.ok ∧ (t.depth : Int) ≤ z ∧ DatIn ex r t.dat)
end
theorem TreeAt.use {w : World} {p : Program} {loose : List Str} {mean : ExcName → Option Value} {mg mb : Str → Option Value} {z dm : Int} {k : Nat} {S rest : List (Addr × Obj)} {sa ca : Addr} {turn : Int} {t2 : Tok} (h : TreeAt w p loose mean mg mb z dm k) (hS : Src sa ca turn S) (hne : @Ne Nat sa ca) (hr : Off2 sa ca rest) (h0 : 0 ≤ turn) (h1 : turn + dm ≤ 900) :
    Ct w p loose mean mg mb 847 [.ref sa, .int z t2] (S ++ rest) k (SrcR sa ca turn dm rest fun r ex => ∃ t : T, t.ok ∧ (t.depth : Int) ≤ z ∧ DatIn ex r t.dat) := h S rest sa ca turn t2 hS hne hr h0 h1
/-- the tree's way is drawn -/
inductive WayAt (g : Heap) (L : Addr) (sa ca : Addr) (z turn : Int) (t2 : Tok) (rest : List (Addr × Obj)) (s₀ s' : Shared) : Prop
  | mk (h' : Heap) (tk' : Nat) (m' : Str → Option Value) (wv : Int) (u : Tok) (S' : List (Addr × Obj)) (z0 : s' = { s₀ with heap := h', toks := tk' }) (z1 : Fr g L h' m') (z2 : Keep [(Str.ofString "source", .ref sa), (Str.ofString "depth", .int z t2), (Str.ofString "way", .int wv u)] m') (z3 : News g L h' (S' ++ rest)) (z4 : Src sa ca (turn + 1) S') (z5 : 0 ≤ wv) (z6 : wv < 7) (z7 : (4 ≤ wv → 0 < z)) : WayAt g L sa ca z turn t2 rest s₀ s'
theorem way_intro {g h' : Heap} {L sa ca : Addr} {z turn wv : Int} {t2 u : Tok} {rest S' : List (Addr × Obj)} {s₀ : Shared} {tk' : Nat} {m' : Str → Option Value} (F : Fr g L h' m') (N : News g L h' (S' ++ rest)) (k : Keep [(Str.ofString "source", .ref sa), (Str.ofString "depth", .int z t2), (Str.ofString "way", .int wv u)] m') (hS : Src sa ca (turn + 1) S') (h0 : 0 ≤ wv) (h1 : wv < 7) (h2 : 4 ≤ wv → 0 < z) :
    WayAt g L sa ca z turn t2 rest s₀ { s₀ with heap := h', toks := tk' } := ⟨h', tk', m', wv, u, S', rfl, F, k, N, hS, h0, h1, h2⟩
/-- a statement's end: the def goes on -/
noncomputable def Nx (P : Shared → Prop) (fl : Flow) (s : Shared) : Prop := fl = .next ∧ P s
section
variable {prog : Program} {w : World} {A : Around} {E : Value → Shared → Prop} {s : Shared} {env : Env} {stt : Stmt} {rest : List Stmt} {Q : Flow → Shared → Prop}
theorem cutN (P : Shared → Prop) (h1 : wpAny (model prog w) A (exec stt env) (Nx P) E s) (h2 : ∀ s', P s' → wpAny (model prog w) A (execs rest env) Q E s') : wpAny (model prog w) A (execs (stt :: rest) env) Q E s := by
  refine wpAny_execs_cons (wpAny_mono h1 (fun fl s' h => ?_) fun _ _ e => e)
  obtain ⟨rfl, hp⟩ := h
  exact h2 s' hp
end
theorem tree_end {g h' : Heap} {L D sa ca : Addr} {s : Shared} {tk' k : Nat} {m' : Str → Option Value} {vs : List Value} {all S' ex rest : List (Addr × Obj)} {turn t' dm z : Int} {t : T}
    (F : Fr g L h' m') (N : News g L h' all) (hD : (D, tupO vs k) ∈ all) (hsub : ∀ q ∈ S' ++ (ex ++ rest), q ∈ all) (hlt : ∀ q ∈ S' ++ (ex ++ rest), @LT.lt Nat _ q.1 D) (hS : Src sa ca t' S') (b1 : turn ≤ t') (b2 : t' ≤ turn + dm) (hoff : Off2 sa ca ex) (hap : Apart ex rest) (ho : t.ok) (hdp : (t.depth : Int) ≤ z)
    (hd : DatIn ((D, tupO vs k) :: ex) (.ref D) t.dat) : Back g L s (SrcR sa ca turn dm rest fun r ex => ∃ t : T, t.ok ∧ (t.depth : Int) ≤ z ∧ DatIn ex r t.dat) (.ret (.ref D)) { s with heap := h', toks := tk' } := by
  refine Back.intro F N (news' := S' ++ (((D, tupO vs k) :: ex) ++ rest)) (fun q hq => ?_) ⟨t', S', (D, tupO vs k) :: ex, rfl, hS, b1, b2, ?_, Apart.cons (fun r hr => Nat.ne_of_gt (hlt r (by simp [hr]))) hap, t, ho, hdp, hd⟩
  · simp only [List.mem_append, List.mem_cons] at hq
    rcases hq with h | (rfl | h) | h
    · exact hsub q (by simp [h])
    · exact hD
    · exact hsub q (by simp [h])
    · exact hsub q (by simp [h])
  · obtain ⟨⟨oa, ha⟩, ⟨ob, hb⟩⟩ := hS.mem
    exact Off2.cons (Nat.ne_of_gt (hlt _ (List.mem_append_left _ ha))) (Nat.ne_of_gt (hlt _ (List.mem_append_left _ hb))) hoff
noncomputable def mixOne (q : Nat × Nat) : Str := if q.1 % 2 = 0 then Txt.upper ⟨#[q.2]⟩ else Txt.lower ⟨#[q.2]⟩
noncomputable def fourOf (x : Str) : List Str := [x, Txt.upper x, Txt.lower x, Txt.join (Str.ofString "") ((zipS x).map mixOne)]
theorem four_in : ∀ x ∈ FLAGS, ∀ k : Fin 4, (fourOf x).getD k Str.empty ∈ SPELL := by decide +kernel
theorem flags_short : ∀ x ∈ FLAGS, x.length ≤ 20 := by decide +kernel
theorem join_ok : ∀ x ∈ FLAGS, JoinOk (Str.ofString "") ((zipS x).map mixOne) = true := by decide +kernel
theorem flagVals_strs : StrsAre flagVals FLAGS := by
  unfold flagVals flag0 FLAGS
  simp only [List.map_cons, List.map_nil]
  exact .cons _ _ (.cons _ _ (.cons _ _ (.cons _ _ (.cons _ _ .nil))))
theorem flag_item {i : Nat} (h : i < 5) : FLAGS.getD i Str.empty ∈ FLAGS := by
  rw [List.getD_eq_getElem?_getD, List.getElem?_eq_getElem (show i < FLAGS.length from h)]
  exact List.getElem_mem _
theorem strs_vals {vs : List Value} {ts : List Str} (h : StrsAre vs ts) : ∃ l : List (Str × Tok), vs = strValues l ∧ l.map (·.1) = ts := by
  induction h with
  | nil => exact ⟨[], rfl, rfl⟩
  | cons y t _ ih => obtain ⟨l, rfl, rfl⟩ := ih; exact ⟨(y, t) :: l, rfl, rfl⟩
theorem join_strs {prog : Program} {w : World} {A : Around} {E : Value → Shared → Prop} {s : Shared} {Q : Value → Shared → Prop} {h₀ : Heap} {L D : Addr} {news : List (Addr × Obj)} {vs : List Value} {ts : List Str} {x : Str} {t : Tok} {k : Nat} (N : News h₀ L s.heap news) (hm : (D, listOf vs.toArray k) ∈ news) (hs : StrsAre vs ts) (hok : JoinOk x ts = true)
    (hq : ∀ t' k, Q (.str (Txt.join x ts) t') { s with toks := k }) : wpAny (model prog w) A (call (.builtin "str.join") [.str x t, .ref D]) Q E s := by
  obtain ⟨l, rfl, e⟩ := strs_vals hs
  exact SC.join (l := l) ⟨_, (N _ hm).1, rfl, k, rfl⟩ e hok hq
theorem fmod_two {n : Nat} : ((n : Int).fmod 2 = 0) ↔ n % 2 = 0 := by
  rw [show (2 : Int) = ((2 : Nat) : Int) from rfl, ← Int.ofNat_fmod]
  omega
theorem mix_up {n c : Nat} (h : (n : Int).fmod 2 = 0) : mixOne (n, c) = Txt.upper ⟨#[c]⟩ := if_pos (fmod_two.mp h)
theorem mix_low {n c : Nat} (h : (n : Int).fmod 2 ≠ 0) : mixOne (n, c) = Txt.lower ⟨#[c]⟩ := if_neg fun e => h (fmod_two.mpr e)

section
local macro_rules | `(tactic| k_all) => `(tactic| assumption)
local macro_rules | `(tactic| ktr_room) => `(tactic| first | (refine' room_d ?hrd9 ?hri9; (case hrd9 => assumption); (case hri9 => decide)) | ((try simp only [depth_under_make, depth_under_kw, depth_in1, depth_deeper]); (try dsimp only [ktrTop]); (try simp only [recursionLimit]); omega))
local macro_rules | `(tactic| k_room) => `(tactic| first | (refine' room_d ?hrd9 ?hri9; (case hrd9 => assumption); (case hri9 => decide)) | ((try simp only [depth_under_make, depth_under_kw, depth_in1, depth_deeper]); (try dsimp only [ktrTop]); (try simp only [recursionLimit]); omega))
local macro_rules | `(tactic| ke_room) => `(tactic| first | (refine' room_u ?hrd9 ?hri9; (case hrd9 => assumption); (case hri9 => decide)) | (refine' room_64 ?hrd9; (case hrd9 => assumption)) | (refine' room_0 ?hrd9; (case hrd9 => assumption)) | ((try simp only [units_in1, units_deeper, Around.mark_units]); (try dsimp only [ktrTop]); (try simp only [cLine]); omega))
local macro_rules | `(tactic| walk_at "compareOp Eq ref ref") => `(tactic| (k_here; (with_reducible show wpAny _ _ (compareOp CmpOp.Eq (Value.ref _) (Value.ref _)) _ _ _); k_dflt (refine' eq_empty ?N ?a ?i ?b ?u ?_; (case N => k_asm); (case b => k_mem); (case a => k_mem); (case i => with_reducible assumption); (case u => ke_room); k_whole)))
local macro_rules | `(tactic| k_data) => `(tactic| ((have hfill9 : OpenLaw.prog PySem.Challenge.rw_pq0955_01 = OpenLaw.prog PySem.Challenge.rw_pq0955_01 ∧ heapK = heapK := by k_fill; exact ⟨rfl, rfl⟩); clear hfill9))
local macro_rules | `(tactic| walk_at "call type:tuple") => `(tactic| ((with_reducible show wpAny _ _ (call (Value.type _) [Value.ref _]) _ _ _); refine call_tuple_same (News.isTup (by k_asm) (by k_mem)) ?_))
local macro_rules | `(tactic| k_mem) => `(tactic| ((repeat (refine List.mem_cons_of_mem _ ?_)); with_reducible assumption))

section
local macro_rules | `(tactic| walk_at "subscriptTail Name Name ref int") => `(tactic| (k_here; (with_reducible show wpAny _ _ (subscriptTail _ _ (Value.ref _) (Value.int _ _)) _ _ _); k_dflt (refine' ksa_sub ?k1 ?k2 ?k3 ?k4 ?k5 ?k6 ?_ ?k7; (case k1 => k_asm); (case k2 => k_mem); (case k3 => with_reducible assumption); (case k4 => first | omega | exact (place_ok (by assumption) (by assumption)).1); (case k5 => first | omega | exact (place_ok (by assumption) (by assumption)).2); (case k6 => first | omega | exact Int.lt_trans (place_ok (by assumption) (by assumption)).2 (by omega)); (case k7 => with_unfolding_all rfl); k_whole); intro _))
local macro_rules | `(tactic| walk_at "setItem ref int int") => `(tactic| (k_here; (with_reducible show wpAny _ _ (setItem (Value.ref _) (Value.int _ _) (Value.int _ _)) _ _ _); k_dflt (refine' ksa_set ?k1 ?k2 ?k3 ?k4 ?k5 ?k6 ?k7 ?_; (case k1 => k_asm); (case k2 => k_asm); (case k3 => k_upd); (case k4 => with_reducible assumption); (case k5 => first | omega | exact (place_ok (by assumption) (by assumption)).1); (case k6 => first | omega | exact (place_ok (by assumption) (by assumption)).2); (case k7 => first | omega | exact Int.lt_trans (place_ok (by assumption) (by assumption)).2 (by omega)); k_whole); intro h' F' N' hi' hl' hs'; (try k_sweep)))

section
variable {w : World} {p : Program} {loose : List Str} {mean : ExcName → Option Value} {mg mb : Str → Option Value}
set_option maxRecDepth 100000 in
set_option maxHeartbeats 8000000 in
theorem taken_ct {rest S : List (Addr × Obj)} {sa ca : Addr} {turn limit : Int} {t2 : Tok} (hS : Src sa ca turn S)
    (hne : @Ne Nat sa ca) (hr : Off2 sa ca rest) (hl : 0 < limit) (hl2 : limit < 100) (ht : 0 ≤ turn) (ht2 : turn < 1000) :
    Ct w p loose mean mg mb 832 [.ref sa, .int limit t2] (S ++ rest) 1 (TakenR sa ca turn limit rest) := by
  obtain ⟨t1, n1, n2, cvs, cs, rfl, hi, hlen⟩ := hS
  have hne' : @Ne Nat ca sa := Ne.symm hne
  have hr1 : ∀ q ∈ rest, q.1 ≠ sa := fun q hq => (hr q hq).1
  have hr2 : ∀ q ∈ rest, q.1 ≠ ca := fun q hq => (hr q hq).2
  clear hr
  simp only [List.cons_append, List.nil_append]
  k_data
  refine' ct_of_body (binds := [(Str.ofString "source", .ref sa), (Str.ofString "limit", .int limit t2)]) ?o ?cd ?b ?l ?h ?c2 ?c3 ?c4 ?c5
  case o => k_is
  case cd => k_is
  case b => rfl
  case l => exact locs rfl
  case c2 => rfl
  case c3 => rfl
  case c4 => rfl
  case c5 => decide
  intro dp un gd outer A₀ base g L s B F X N T hd hu
  simp only [List.reverse_cons, List.reverse_nil, List.nil_append, List.cons_append, mOf] at F
  k_fold
  k_steps
  all_goals (try dsimp only)
  all_goals (refine taken_end (by k_asm) (by k_asm) (by k_sub) (by assumption) (by first | assumption | (simp only [List.length_set]; assumption)) (Int.fmod_nonneg_of_pos _ (by assumption)) (Int.fmod_lt_of_pos _ (by assumption)))

end
end
section
variable {w : World} {p : Program} {loose : List Str} {mean : ExcName → Option Value} {mg mb : Str → Option Value}
set_option maxRecDepth 100000 in
set_option maxHeartbeats 8000000 in
theorem ends_ct {news : List (Addr × Obj)} {pv : Value} {q : Int × Int} {gr : Int} {t : Tok} (hp : DatIn news pv (pairD q)) : Ct w p loose mean mg mb 595 [pv, .int gr t] news 1 (EndsR q gr news) := by
  obtain ⟨lo, hi⟩ := q
  obtain ⟨a, t1, t2, n, rfl, hm⟩ := dat_pair hp
  dsimp only at hm
  k_data
  refine' ct_of_body (binds := [(Str.ofString "pair", .ref a), (Str.ofString "greatest", .int gr t)]) ?o ?cd ?b ?l ?h ?c2 ?c3 ?c4 ?c5
  case o => k_is
  case cd => k_is
  case b => rfl
  case l => exact locs rfl
  case c2 => rfl
  case c3 => rfl
  case c4 => rfl
  case c5 => decide
  intro dp un gd outer A₀ base g L s B F X N T hd hu
  simp only [List.reverse_cons, List.reverse_nil, List.nil_append, List.cons_append, mOf] at F
  k_fold
  k_steps
  all_goals (try dsimp only)
  all_goals first
    | contradiction
    | exact ends_none (by k_asm) (by k_asm) (by k_sub) ⟨by assumption, .inl (by assumption)⟩
    | exact ends_none (by k_asm) (by k_asm) (by k_sub) ⟨by assumption, .inr (by assumption)⟩
    | (refine ends_some (by k_asm) (by k_asm) (by k_sub) ?_ (ends_same (by first | exact endOf_pos (by assumption) | exact endOf_neg (by assumption)) (by first | exact endOf_pos (by assumption) | exact endOf_neg (by assumption)))
       first | exact fun c => absurd c.1 (by assumption) | exact fun c => c.2.elim (by assumption) (by assumption))
    | (refine ends_some (by k_asm) (by k_asm) (by k_sub) ?_ (ends_two (by first | exact endOf_pos (by assumption) | exact endOf_neg (by assumption)) (by first | exact endOf_pos (by assumption) | exact endOf_neg (by assumption)))
       first | exact fun c => absurd c.1 (by assumption) | exact fun c => c.2.elim (by assumption) (by assumption))

end
section
variable {w : World} {p : Program} {loose : List Str} {mean : ExcName → Option Value} {mg mb : Str → Option Value}
local macro_rules | `(tactic| walk_at "zz") => `(tactic| fail "zz")
set_option maxRecDepth 100000 in
set_option maxHeartbeats 8000000 in
theorem seen_new {news : List (Addr × Obj)} {a b c : Value} : Ct w p loose mean mg mb 685 [a, b, c] news 2 (fun r n => ∃ x d l, r = .ref x ∧ n = l ++ news ∧ SeenO w x d a b c l ∧ Over news d ∧ @LT.lt Nat _ d x) := by
  intro dp un gd cn cs fa ccd cl outer A₀ base h₀ L m s Q E B F X N T hck hd hu hret
  obtain ⟨kind, names, ig, ic⟩ := cs
  have hck' : kind = ScopeKind.function := hck
  subst hck'
  clear hck
  k_data
  k_steps
  refine' hret _ _ _ _ ?r ?F ?N
  case F => assumption
  case N => assumption
  case r => exact ⟨_, _, _, rfl, rfl, ⟨_, _, _, _, rfl⟩, by assumption, by assumption⟩
set_option maxRecDepth 100000 in
set_option maxHeartbeats 8000000 in
theorem letter_new {news : List (Addr × Obj)} {a b e f : Value} {fx : Addr} {vs : List Value} {n : Nat} (hm : (fx, tupO vs n) ∈ news) : Ct w p loose mean mg mb 130 [a, b, .ref fx, e, f] news 2 (fun r n => ∃ x d l, r = .ref x ∧ n = l ++ news ∧ LetterO w x d a b (.ref fx) e f l ∧ Over news d ∧ @LT.lt Nat _ d x) := by
  intro dp un gd cn cs fa ccd cl outer A₀ base h₀ L m s Q E B F X N T hck hd hu hret
  obtain ⟨kind, names, ig, ic⟩ := cs
  have hck' : kind = ScopeKind.function := hck
  subst hck'
  clear hck
  k_data
  k_steps
  refine' hret _ _ _ _ ?r ?F ?N
  case F => assumption
  case N => assumption
  case r => exact ⟨_, _, _, rfl, rfl, ⟨_, _, _, _, _, _, rfl⟩, by assumption, by assumption⟩

end
section
variable {w : World} {p : Program} {loose : List Str} {mean : ExcName → Option Value} {mg mb : Str → Option Value}
inductive SysR (news : List (Addr × Obj)) (r : Value) (n : List (Addr × Obj)) : Prop
  | mk (D : Addr) (t1 t2 t3 t4 t5 : Tok) (k : Nat) (z0 : r = .ref D) (z1 : Over news D) (z2 : n = (D, listOf #[.str (Str.ofString "\\Seen") t1, .str (Str.ofString "\\Answered") t2, .str (Str.ofString "\\Flagged") t3, .str (Str.ofString "\\Deleted") t4, .str (Str.ofString "\\Draft") t5] k) :: news) : SysR news r n
theorem u_sys {news : List (Addr × Obj)} (P : PR) (h : ∀ D t1 t2 t3 t4 t5 k, Over news D → P (.ref D) ((D, listOf #[.str (Str.ofString "\\Seen") t1, .str (Str.ofString "\\Answered") t2, .str (Str.ofString "\\Flagged") t3, .str (Str.ofString "\\Deleted") t4, .str (Str.ofString "\\Draft") t5] k) :: news)) (r : Value) (n : List (Addr × Obj)) (e : SysR news r n) : P r n := by
  obtain ⟨D, t1, t2, t3, t4, t5, k, rfl, h0, rfl⟩ := e
  exact h D t1 t2 t3 t4 t5 k h0
theorem sys_end {g : Heap} {L : Addr} {s : Shared} {news : List (Addr × Obj)} {D : Addr} {t1 t2 t3 t4 t5 : Tok} {k : Nat} {h' : Heap} {tk' : Nat} {m' : Str → Option Value} {o : Obj} (F : Fr g L h' m') (N : News g L h' ((D, o) :: news)) (hD : Over news D)
    (e : o = listOf #[.str (Str.ofString "\\Seen") t1, .str (Str.ofString "\\Answered") t2, .str (Str.ofString "\\Flagged") t3, .str (Str.ofString "\\Deleted") t4, .str (Str.ofString "\\Draft") t5] k) : Back g L s (SysR news) (.ret (.ref D)) { s with heap := h', toks := tk' } := by
  subst e
  exact Back.intro F N (fun _ h => h) ⟨D, t1, t2, t3, t4, t5, k, rfl, hD, rfl⟩
set_option maxRecDepth 100000 in
set_option maxHeartbeats 8000000 in
theorem system_ct {news : List (Addr × Obj)} : Ct w p loose mean mg mb 85 [] news 1 (SysR news) := by
  k_data
  refine' ct_of_body (binds := []) ?o ?cd ?b ?l ?h ?c2 ?c3 ?c4 ?c5
  case o => k_is
  case cd => k_is
  case b => rfl
  case l => exact locs rfl
  case c2 => rfl
  case c3 => rfl
  case c4 => rfl
  case c5 => decide
  intro dp un gd outer A₀ base g L s B F X N T hd hu
  simp only [List.reverse_cons, List.reverse_nil, List.nil_append, List.cons_append, mOf] at F
  k_fold
  k_steps
  exact sys_end (by k_asm) (by k_asm) (by k_asm) (by with_unfolding_all rfl)

end
section
variable {w : World} {p : Program} {loose : List Str} {mean : ExcName → Option Value} {mg mb : Str → Option Value}
local macro_rules | `(tactic| walk_at "call ref") => `(tactic| ((with_reducible show wpAny _ _ (call (Value.ref 595) _) _ _ _); refine' ct_useU u_ends (ends_ct ?dat) ?_; (case dat => (refine DatIn.mono ?_ (by assumption); k_sub)); (intro h9 tk9 F9; refine' ⟨fun hz9 N9 => ?_, fun hz9 D9 u1 u2 m9 N9 => ?_⟩); (try dsimp only)))
theorem pp_none {q : Int × Int} {n gr : Int} (h : gr = 0 ∧ (q.1 = 0 ∨ q.2 = 0)) : progPair q n gr = false := by
  unfold progPair; obtain ⟨h1, h2⟩ := h; rcases h2 with h2 | h2 <;> simp [h1, h2]
theorem pp_some {q : Int × Int} {n gr : Int} (h : ¬ (gr = 0 ∧ (q.1 = 0 ∨ q.2 = 0))) : progPair q n gr = (decide (min (endOf q.1 gr) (endOf q.2 gr) ≤ n) && decide (n ≤ max (endOf q.1 gr) (endOf q.2 gr))) := by
  unfold progPair
  have : (decide (gr = 0) && (decide (q.1 = 0) || decide (q.2 = 0))) = false := by
    rw [Bool.eq_false_iff]; intro h'; simp only [Bool.and_eq_true, Bool.or_eq_true, decide_eq_true_eq] at h'; exact h h'
  rw [this]; rfl
theorem pp_no {q : Int × Int} {n gr : Int} (h : ¬ (gr = 0 ∧ (q.1 = 0 ∨ q.2 = 0))) (h' : ¬ (min (endOf q.1 gr) (endOf q.2 gr) ≤ n ∧ n ≤ max (endOf q.1 gr) (endOf q.2 gr))) : progPair q n gr = false := by
  rw [pp_some h, Bool.eq_false_iff]; intro h2; simp only [Bool.and_eq_true, decide_eq_true_eq] at h2; exact h' h2
theorem pp_yes {q : Int × Int} {n gr : Int} (h : ¬ (gr = 0 ∧ (q.1 = 0 ∨ q.2 = 0))) (h1 : min (endOf q.1 gr) (endOf q.2 gr) ≤ n) (h2 : n ≤ max (endOf q.1 gr) (endOf q.2 gr)) : progPair q n gr = true := by
  rw [pp_some h, decide_eq_true h1, decide_eq_true h2]; rfl
theorem has_cons {q : Int × Int} {qs : List (Int × Int)} {n gr : Int} : progHas (q :: qs) n gr = (progPair q n gr || progHas qs n gr) := rfl
set_option maxRecDepth 100000 in
set_option maxHeartbeats 8000000 in
theorem has_ct {news : List (Addr × Obj)} {a : Addr} {vs : List Value} {k : Nat} {ps : List (Int × Int)} {n gr : Int} {t1 t2 : Tok} (hm : (a, tupO vs k) ∈ news) (hp : DatAll news vs (ps.map pairD)) :
    Ct w p loose mean mg mb 609 [.ref a, .int n t1, .int gr t2] news 2 (fun r news' => r = .bool (progHas ps n gr) ∧ news' = news) := by
  k_data
  refine' ct_of_body (binds := [(Str.ofString "some", .ref a), (Str.ofString "number", .int n t1), (Str.ofString "greatest", .int gr t2)]) ?o ?cd ?b ?l ?h ?c2 ?c3 ?c4 ?c5
  case o => k_is
  case cd => k_is
  case b => rfl
  case l => exact locs rfl
  case c2 => rfl
  case c3 => rfl
  case c4 => rfl
  case c5 => decide
  intro dp un gd outer A₀ base g L s B F X N T hd hu
  simp only [List.reverse_cons, List.reverse_nil, List.nil_append, List.cons_append, mOf] at F
  k_fold
  k_steps
  refine' For_turns F ?_
  k_steps
  refine' tup_keep (l := [(Str.ofString "greatest", .int gr t2), (Str.ofString "number", .int n t1), (Str.ofString "some", .ref a)]) (D := fun us => ∃ qs : List (Int × Int), DatAll news us (qs.map pairD) ∧ progHas ps n gr = progHas qs n gr) rfl F N hm ⟨rfl, rfl, rfl, trivial⟩ ⟨ps, hp, rfl⟩ ?_ ?_
  · clear F N
    intro m h tk hD F N
    obtain ⟨qs, hq, e⟩ := hD
    have : qs = [] := by cases qs with | nil => rfl | cons q qs => cases hq
    subst this
    simp only [mOn] at F
    dsimp only
    k_steps
    all_goals (try dsimp only)
    exact Back.intro F N (fun _ h => h) ⟨by rw [e]; rfl, rfl⟩
  · clear F N
    intro I v r m h tk o hI hD ho F N
    obtain ⟨qs, hq, e⟩ := hD
    simp only [mOn] at F
    cases qs with
    | nil => cases hq
    | cons q qs =>
    obtain ⟨v', r', e', hv, hr⟩ := dat_cons hq
    obtain ⟨rfl, rfl⟩ := List.cons.inj e'
    rw [has_cons] at e
    k_steps
    all_goals (try dsimp only)
    all_goals first
      | exact turn_fix (by k_asm) (by k_asm) (by k_mem) (by k_sub) hI (by k_sub) ⟨rfl, rfl, rfl, trivial⟩ ⟨qs, hr, by rw [e, pp_none (by assumption), Bool.false_or]⟩
      | exact turn_fix (by k_asm) (by k_asm) (by k_mem) (by k_sub) hI (by k_sub) ⟨rfl, rfl, rfl, trivial⟩ ⟨qs, hr, by rw [e, pp_no (by assumption) (by omega), Bool.false_or]⟩
      | exact Back.intro (by k_asm) (by k_asm) (by k_sub) ⟨by rw [e, pp_yes (by assumption) (by assumption) (by assumption)]; rfl, rfl⟩

end
section
local macro_rules | `(tactic| walk_at "exec For Name Name cons nil") => `(tactic| ((rename Fr _ _ _ _ => lF'); (with_unfolding_all refine' For_turns lF' ?_)))
local macro_rules | `(tactic| walk_at "exec For Name Call cons nil") => `(tactic| ((rename Fr _ _ _ _ => lF'); (with_unfolding_all refine' For_turns lF' ?_)))
local macro_rules | `(tactic| walk_at "exec For Tuple Name cons nil") => `(tactic| ((rename Fr _ _ _ _ => lF'); (with_unfolding_all refine' For_turns lF' ?_)))

section
variable {w : World} {p : Program} {loose : List Str} {mean : ExcName → Option Value} {mg mb : Str → Option Value}
noncomputable def OKS : List Str := [Str.ofString "w", Str.ofString "o", Str.ofString "r", Str.ofString "k", Str.ofString "W", Str.ofString "O", Str.ofString "R", Str.ofString "K"]
theorem kw_signs : ∀ x ∈ KW, ∀ y ∈ x.cps.toList.map (fun c => (⟨#[c]⟩ : Str)), y ∈ OKS := by decide +kernel
theorem len_four {prog : Program} {A : Around} {E : Value → Shared → Prop} {s : Shared} {x : Str} {t : Tok} {Q : Value → Shared → Prop} (hl : (x.length : Int) = 4) (h : Q (.int 4 (s.toks + 1)) { s with toks := s.toks + 1 + 1 }) : wpAny (model prog w) A (call (.builtin "len") [.str x t]) Q E s := by
  refine len_str (by rw [hl]; decide) ?_
  rw [hl]; exact h
local macro_rules | `(tactic| walk_at "call builtin:len") => `(tactic| (refine len_four (by assumption) ?_))
local macro_rules | `(tactic| walk_at "exec For Name Name cons nil") => `(tactic| ((rename Fr _ _ _ _ => lF'); (with_unfolding_all refine' For_invVF lF' ?k1 ?k2 ?_; (case k1 => exact rfl); (case k2 => exact rfl))))
local macro_rules | `(tactic| walk_at "pyIter str") => `(tactic| ((with_reducible show wpAny _ _ (pyIter (Value.str _ _)) (fun it s₂ => LoopAtV _ _ _ _ _ _ _ _ _ it s₂) _ _); (rename Fr _ _ _ _ => lF'); (rename News _ _ _ _ => lN'); (with_unfolding_all refine' str_keep (l := []) (D := fun l => ∀ y ∈ l, y ∈ OKS) rfl lF' lN' trivial (by first | assumption | (refine kw_signs _ ?_; assumption)) ?_ ?_); rotate_left 1; (intro I9 c9 r9 m9 h9 tk9 o9 u9 hI9 hD9 F9 N9; (simp only [mOn] at F9); (have hc9 := hD9 c9 (List.mem_cons_self ..)); (have hE9 : ∀ y ∈ r9, y ∈ OKS := fun y hy => hD9 y (List.mem_cons_of_mem _ hy)); clear hD9; (simp only [OKS, List.mem_cons, List.not_mem_nil, or_false] at hc9); (rcases hc9 with hc9 | hc9 | hc9 | hc9 | hc9 | hc9 | hc9 | hc9 <;> subst hc9))))
set_option maxRecDepth 100000 in
set_option maxHeartbeats 8000000 in
theorem kw_ct {news : List (Addr × Obj)} {x : Str} {t : Tok} (hx : x ∈ KW) : Ct w p loose mean mg mb 92 [.str x t] news 1 (fun r n => r = .bool true ∧ n = news) := by
  have hl : (x.length : Int) = 4 := by revert x; decide +kernel
  k_data
  refine' ct_of_body (binds := [(Str.ofString "text", .str x t)]) ?o ?cd ?b ?l ?h ?c2 ?c3 ?c4 ?c5
  case o => k_is
  case cd => k_is
  case b => rfl
  case l => exact locs rfl
  case c2 => rfl
  case c3 => rfl
  case c4 => rfl
  case c5 => decide
  intro dp un gd outer A₀ base g L s B F X N T hd hu
  simp only [List.reverse_cons, List.reverse_nil, List.nil_append, List.cons_append, mOf] at F
  k_fold
  k_steps
  all_goals (try dsimp only)
  all_goals first
    | exact Back.intro (by k_asm) (by k_asm) (by k_sub) ⟨rfl, rfl⟩
    | exact turn_str (by k_asm) (by k_asm) (by k_mem) (by k_sub) (by assumption) trivial (by assumption)
    | (rename (Builtin.Str.occurrences _ _ _ _ _).isEmpty = false => hb; exact absurd hb (by decide +kernel))

end
section
variable {w : World} {p : Program} {loose : List Str} {mean : ExcName → Option Value} {mg mb : Str → Option Value}
noncomputable def strTest (x : Str) (n : Str) : Bool := Txt.lower x == Txt.lower n
theorem no_sys : ∀ x ∈ SPELL, SYS.find? (strTest x) = none → x ∈ KW := by decide +kernel
theorem spell_len : ∀ x ∈ SPELL, x.length ≤ 60 := by decide +kernel
theorem sys_len : ∀ x ∈ SYS, x.length ≤ 60 := by decide +kernel
theorem name_some {x n : Str} (h : SYS.find? (strTest x) = some n) : progFlagName x = n := by
  unfold progFlagName; have h' : (SYS.find? fun n => Txt.lower x == Txt.lower n) = some n := h; rw [h']
theorem name_none {x : Str} (h : SYS.find? (strTest x) = none) : progFlagName x = x := by
  unfold progFlagName; have h' : (SYS.find? fun n => Txt.lower x == Txt.lower n) = none := h; rw [h']
set_option maxRecDepth 100000 in
set_option maxHeartbeats 8000000 in
theorem fname_ct {news : List (Addr × Obj)} {x : Str} {t : Tok} (hx : x ∈ SPELL) : Ct w p loose mean mg mb 99 [.str x t] news 2 (fun r n => (∃ u, r = .str (progFlagName x) u) ∧ n = news) := by
  k_data
  refine' ct_of_body (binds := [(Str.ofString "text", .str x t)]) ?o ?cd ?b ?l ?h ?c2 ?c3 ?c4 ?c5
  case o => k_is
  case cd => k_is
  case b => rfl
  case l => exact locs rfl
  case c2 => rfl
  case c3 => rfl
  case c4 => rfl
  case c5 => decide
  intro dp un gd outer A₀ base g L s B F X N T hd hu
  simp only [List.reverse_cons, List.reverse_nil, List.nil_append, List.cons_append, mOf] at F
  k_fold
  repeat ((fail_if_success (with_reducible show wpAny _ _ (call (Value.ref 85) _) _ _ _)); (first | walk1 | (dsimp only; walk1)))
  refine' ct_useU u_sys (system_ct) ?_
  intro _ _ _ _ _ _ _ _ _ _ _ _
  try dsimp only
  k_steps
  rename_i r9 h9 tk9 F9 D9 t1 t2 t3 t4 t5 k9 hO9 N9
  have hxl := spell_len x hx
  refine' list_keep (l := [(Str.ofString "text", .str x t)]) (D := fun us => ∃ ss : List Str, StrsAre us ss ∧ (∀ y ∈ ss, y.length ≤ 60) ∧ SYS.find? (strTest x) = ss.find? (strTest x)) rfl F9 N9 (List.Mem.head _) ⟨rfl, trivial⟩ ⟨SYS, .cons _ _ (.cons _ _ (.cons _ _ (.cons _ _ (.cons _ _ .nil)))), sys_len, rfl⟩ ?_ ?_
  · clear F9 N9
    intro m h tk hD F N
    obtain ⟨ss, hs, hl, e⟩ := hD
    cases hs
    simp only [mOn] at F
    change Fr g L _ _ at F
    change News g L _ _ at N
    have hk := no_sys x hx e
    have hn := name_none e
    dsimp only
    repeat ((fail_if_success (with_reducible show wpAny _ _ (call (Value.ref 92) _) _ _ _)); (first | walk1 | (dsimp only; walk1)))
    refine' ct_useU u_eq (kw_ct ?hx7) ?_
    case hx7 => assumption
    intro _ _ _  _
    try dsimp only
    k_steps
    all_goals (try dsimp only)
    all_goals (show Back g L s _ _ _; exact Back.intro (by assumption) (by assumption) (by k_sub) ⟨⟨t, by rw [hn]⟩, rfl⟩)
  · clear F9 N9
    intro I v r m h tk o hI hD ho F N
    obtain ⟨ss, hs, hl, e⟩ := hD
    simp only [mOn] at F
    change Fr g L _ _ at F
    change News g L _ _ at N
    cases hs with | @cons n u _ ss' hs' =>
    have hnl := hl n (List.mem_cons_self ..)
    k_steps
    all_goals (try dsimp only)
    · rename_i hb
      refine' Back.intro (by k_asm) (by k_asm) (by k_sub) ⟨⟨u, ?_⟩, rfl⟩
      rw [name_some (n := n) (by rw [e]; exact List.find?_cons_of_pos hb)]
    · rename_i hb
      exact turn_fix (by k_asm) (by k_asm) (by k_mem) (by k_sub) (by assumption) (by k_sub) ⟨rfl, trivial⟩ ⟨ss', hs', fun y hy => hl y (List.mem_cons_of_mem _ hy), by rw [e]; exact List.find?_cons_of_neg (by rw [strTest, hb]; decide)⟩

end
end
section
variable {w : World} {p : Program} {loose : List Str} {mean : ExcName → Option Value} {mg mb : Str → Option Value}
set_option maxRecDepth 100000 in
set_option maxHeartbeats 8000000 in
theorem number_seq {news : List (Addr × Obj)} {leaf lv : Value} {cx : Addr} {ps : List (Int × Int)} {num g1 g2 : Int} {t u1 u2 : Tok} {n : Nat} (hl : DatIn news leaf (T.seq ps).dat) (hc : (cx, tupO [.int g1 u1, .int g2 u2] n) ∈ news) :
    Ct w p loose mean mg mb 774 [leaf, lv, .int num t, .ref cx] news 3 (fun r n => r = .bool (progHas ps num g1) ∧ n = news) := by
  obtain ⟨a, x, y, k, rfl, hm, hx, hy⟩ := dat_two hl
  obtain ⟨t1, rfl⟩ := dat_str hx
  obtain ⟨b, vs, k', rfl, hb, hvs⟩ := dat_tup hy
  k_data
  refine' ct_of_body (binds := [(Str.ofString "leaf", .ref a), (Str.ofString "letter", lv), (Str.ofString "number", .int num t), (Str.ofString "context", .ref cx)]) ?o ?cd ?b ?l ?h ?c2 ?c3 ?c4 ?c5
  case o => k_is
  case cd => k_is
  case b => rfl
  case l => exact locs rfl
  case c2 => rfl
  case c3 => rfl
  case c4 => rfl
  case c5 => decide
  intro dp un gd outer A₀ base g L s B F X N T hd hu
  simp only [List.reverse_cons, List.reverse_nil, List.nil_append, List.cons_append, mOf] at F
  k_fold
  repeat ((fail_if_success (with_reducible show wpAny _ _ (call (Value.ref 609) _) _ _ _)); (first | walk1 | (dsimp only; walk1)))
  refine' ct_useU u_eq (has_ct ?a7 ?b7) ?_
  case a7 => k_mem
  case b7 => assumption
  intro _ _ _  _
  try dsimp only
  k_steps
  all_goals exact Back.intro (by k_asm) (by k_asm) (by k_sub) ⟨rfl, rfl⟩
set_option maxRecDepth 100000 in
set_option maxHeartbeats 8000000 in
theorem number_uid {news : List (Addr × Obj)} {leaf : Value} {lx cx : Addr} {ps : List (Int × Int)} {num uid g1 g2 : Int} {fl : List Str} {t u1 u2 : Tok} {n : Nat} (hl : DatIn news leaf (T.uid ps).dat) (hL : LetterIn w news lx uid fl) (hc : (cx, tupO [.int g1 u1, .int g2 u2] n) ∈ news) :
    Ct w p loose mean mg mb 774 [leaf, .ref lx, .int num t, .ref cx] news 3 (fun r n => r = .bool (progHas ps uid g2) ∧ n = news) := by
  obtain ⟨a, x, y, k, rfl, hm, hx, hy⟩ := dat_two hl
  obtain ⟨t1, rfl⟩ := dat_str hx
  obtain ⟨b, vs, k', rfl, hb, hvs⟩ := dat_tup hy
  obtain ⟨d, fx, z0, z1, z2, z3, z4, z5, ov, iv, mv, fvs, k1, n1, h1, h2, h3, h4⟩ := hL
  k_data
  refine' ct_of_body (binds := [(Str.ofString "leaf", .ref a), (Str.ofString "letter", .ref lx), (Str.ofString "number", .int num t), (Str.ofString "context", .ref cx)]) ?o ?cd ?b ?l ?h ?c2 ?c3 ?c4 ?c5
  case o => k_is
  case cd => k_is
  case b => rfl
  case l => exact locs rfl
  case c2 => rfl
  case c3 => rfl
  case c4 => rfl
  case c5 => decide
  intro dp un gd outer A₀ base g L s B F X N T hd hu
  simp only [List.reverse_cons, List.reverse_nil, List.nil_append, List.cons_append, mOf] at F
  k_fold
  repeat ((fail_if_success (with_reducible show wpAny _ _ (call (Value.ref 609) _) _ _ _)); (first | walk1 | (dsimp only; walk1)))
  refine' ct_useU u_eq (has_ct ?a7 ?b7) ?_
  case a7 => k_mem
  case b7 => assumption
  intro _ _ _  _
  try dsimp only
  k_steps
  all_goals exact Back.intro (by k_asm) (by k_asm) (by k_sub) ⟨rfl, rfl⟩

end
section
variable {w : World} {p : Program} {loose : List Str} {mean : ExcName → Option Value} {mg mb : Str → Option Value}
local macro_rules | `(tactic| walk_at "zz") => `(tactic| fail "zz")
set_option maxRecDepth 100000 in
set_option maxHeartbeats 8000000 in
theorem simple_seq {news : List (Addr × Obj)} {leaf lv : Value} {cx : Addr} {ps : List (Int × Int)} {num g1 g2 : Int} {t u1 u2 : Tok} {n : Nat} (hl : DatIn news leaf (T.seq ps).dat) (hc : (cx, tupO [.int g1 u1, .int g2 u2] n) ∈ news) :
    Ct w p loose mean mg mb 781 [leaf, lv, .int num t, .ref cx] news 4 (fun r n => r = .bool (progHas ps num g1) ∧ n = news) := by
  obtain ⟨a, x, y, k, hle, hm, hx, hy⟩ := dat_two hl
  obtain ⟨t1, rfl⟩ := dat_str hx
  subst hle
  k_data
  refine' ct_of_body (binds := [(Str.ofString "leaf", .ref a), (Str.ofString "letter", lv), (Str.ofString "number", .int num t), (Str.ofString "context", .ref cx)]) ?o ?cd ?b ?l ?h ?c2 ?c3 ?c4 ?c5
  case o => k_is
  case cd => k_is
  case b => rfl
  case l => exact locs rfl
  case c2 => rfl
  case c3 => rfl
  case c4 => rfl
  case c5 => decide
  intro dp un gd outer A₀ base g L s B F X N T hd hu
  simp only [List.reverse_cons, List.reverse_nil, List.nil_append, List.cons_append, mOf] at F
  k_fold
  repeat ((fail_if_success (with_reducible show wpAny _ _ (call (Value.ref 774) _) _ _ _)); (first | walk1 | (dsimp only; walk1)))
  refine' ct_useU u_eq (number_seq ?l7 ?c7) ?_
  case l7 => (refine DatIn.mono ?_ (by assumption); k_sub)
  case c7 => k_mem
  intro _ _ _  _
  try dsimp only
  k_steps
  all_goals (first | exact Back.intro (by k_asm) (by k_asm) (by k_sub) ⟨rfl, rfl⟩ | w_report)

end
section
variable {w : World} {p : Program} {loose : List Str} {mean : ExcName → Option Value} {mg mb : Str → Option Value}

set_option maxRecDepth 100000 in
set_option maxHeartbeats 8000000 in
theorem simple_uid {news : List (Addr × Obj)} {leaf : Value} {lx cx : Addr} {ps : List (Int × Int)} {num uid g1 g2 : Int} {fl : List Str} {t u1 u2 : Tok} {n : Nat} (hl : DatIn news leaf (T.uid ps).dat) (hL : LetterIn w news lx uid fl) (hc : (cx, tupO [.int g1 u1, .int g2 u2] n) ∈ news) :
    Ct w p loose mean mg mb 781 [leaf, .ref lx, .int num t, .ref cx] news 4 (fun r n => r = .bool (progHas ps uid g2) ∧ n = news) := by
  obtain ⟨a, x, y, k, hle, hm, hx, hy⟩ := dat_two hl
  obtain ⟨t1, rfl⟩ := dat_str hx
  subst hle
  k_data
  refine' ct_of_body (binds := [(Str.ofString "leaf", .ref a), (Str.ofString "letter", .ref lx), (Str.ofString "number", .int num t), (Str.ofString "context", .ref cx)]) ?o ?cd ?b ?l ?h ?c2 ?c3 ?c4 ?c5
  case o => k_is
  case cd => k_is
  case b => rfl
  case l => exact locs rfl
  case c2 => rfl
  case c3 => rfl
  case c4 => rfl
  case c5 => decide
  intro dp un gd outer A₀ base g L s B F X N T hd hu
  simp only [List.reverse_cons, List.reverse_nil, List.nil_append, List.cons_append, mOf] at F
  k_fold
  repeat ((fail_if_success (with_reducible show wpAny _ _ (call (Value.ref 774) _) _ _ _)); (first | walk1 | (dsimp only; walk1)))
  refine' ct_useU u_eq (number_uid ?l7 ?L7 ?c7) ?_
  case l7 => (refine DatIn.mono ?_ (by assumption); k_sub)
  case L7 => exact LetterIn.mono (by assumption) (by k_sub)
  case c7 => k_mem
  intro _ _ _  _
  try dsimp only
  k_steps
  all_goals (first | exact Back.intro (by k_asm) (by k_asm) (by k_sub) ⟨rfl, rfl⟩ | w_report)

end
section
variable {w : World} {p : Program} {loose : List Str} {mean : ExcName → Option Value} {mg mb : Str → Option Value}

local macro_rules | `(tactic| walk_at "compareOp In str ref") => `(tactic| ((with_reducible show wpAny _ _ (compareOp CmpOp.In (Value.str _ _) (Value.ref _)) _ _ _); refine' in_tuple_strs ?T ?S ?_; (case T => exact News.isTup (by k_asm) (by k_mem)); (case S => with_reducible assumption)))
set_option maxRecDepth 100000 in
set_option maxHeartbeats 8000000 in
theorem simple_flag {news : List (Addr × Obj)} {leaf : Value} {lx cx : Addr} {x : Str} {num uid : Int} {fl : List Str} {t : Tok} (hl : DatIn news leaf (T.flag x).dat) (hx : x ∈ SPELL) (hL : LetterIn w news lx uid fl) :
    Ct w p loose mean mg mb 781 [leaf, .ref lx, .int num t, .ref cx] news 4 (fun r n => r = .bool (progFlag x fl) ∧ n = news) := by
  obtain ⟨a, x1, y, k, hle, hm, hx1, hy⟩ := dat_two hl
  obtain ⟨t1, rfl⟩ := dat_str hx1
  obtain ⟨t2, rfl⟩ := dat_str hy
  subst hle
  obtain ⟨d, fx, z0, z1, z2, z3, z4, z5, ov, iv, mv, fvs, k1, n1, h1, h2, h3, h4⟩ := hL
  k_data
  refine' ct_of_body (binds := [(Str.ofString "leaf", .ref a), (Str.ofString "letter", .ref lx), (Str.ofString "number", .int num t), (Str.ofString "context", .ref cx)]) ?o ?cd ?b ?l ?h ?c2 ?c3 ?c4 ?c5
  case o => k_is
  case cd => k_is
  case b => rfl
  case l => exact locs rfl
  case c2 => rfl
  case c3 => rfl
  case c4 => rfl
  case c5 => decide
  intro dp un gd outer A₀ base g L s B F X N T hd hu
  simp only [List.reverse_cons, List.reverse_nil, List.nil_append, List.cons_append, mOf] at F
  k_fold
  repeat ((fail_if_success (with_reducible show wpAny _ _ (call (Value.ref 99) _) _ _ _)); (first | walk1 | (dsimp only; walk1)))
  refine' ct_useU u_fname (fname_ct ?hx7) ?_
  case hx7 => assumption
  intro _ _ _ _ _
  try dsimp only
  k_steps

  all_goals (first | exact Back.intro (by k_asm) (by k_asm) (by k_sub) ⟨rfl, rfl⟩ | w_report)

end
section
variable {w : World} {p : Program} {loose : List Str} {mean : ExcName → Option Value} {mg mb : Str → Option Value}
set_option maxRecDepth 100000 in
set_option maxHeartbeats 8000000 in
theorem leaf_seq {news : List (Addr × Obj)} {leaf sv : Value} {cx : Addr} {ps : List (Int × Int)} {num uid g1 g2 : Int} {fl : List Str} {u1 u2 : Tok} {n : Nat} (hl : DatIn news leaf (T.seq ps).dat) (hr : RowIn w news sv num uid fl) (hc : (cx, tupO [.int g1 u1, .int g2 u2] n) ∈ news) :
    Ct w p loose mean mg mb 788 [leaf, sv, .ref cx] news 5 (fun r n => r = .bool (leafP (T.seq ps) num uid fl g1 g2) ∧ n = news) := by
  obtain ⟨lx, hS, hL⟩ := hr
  obtain ⟨sx, sd, s0, s1, s2, s3, k, rfl, h1, h2⟩ := hS
  obtain ⟨a, x1, y, k, hle, hm, hx1, hy⟩ := dat_two hl
  obtain ⟨t1, rfl⟩ := dat_str hx1
  subst hle
  k_data
  refine' ct_of_body (binds := [(Str.ofString "leaf", .ref a), (Str.ofString "seen", .ref sx), (Str.ofString "context", .ref cx)]) ?o ?cd ?b ?l ?h ?c2 ?c3 ?c4 ?c5
  case o => k_is
  case cd => k_is
  case b => rfl
  case l => exact locs rfl
  case c2 => rfl
  case c3 => rfl
  case c4 => rfl
  case c5 => decide
  intro dp un gd outer A₀ base g L s B F X N T hd hu
  simp only [List.reverse_cons, List.reverse_nil, List.nil_append, List.cons_append, mOf] at F
  k_fold
  repeat ((fail_if_success (with_reducible show wpAny _ _ (call (Value.ref 781) _) _ _ _)); (first | walk1 | (dsimp only; walk1)))
  refine' ct_useU u_eq (simple_seq ?l7 ?c7) ?_
  case l7 => (refine DatIn.mono ?_ (by assumption); k_sub)
  case c7 => k_mem
  intro _ _ _  _
  try dsimp only
  k_steps
  all_goals (first | exact Back.intro (by k_asm) (by k_asm) (by k_sub) ⟨rfl, rfl⟩ | w_report)

end
section
variable {w : World} {p : Program} {loose : List Str} {mean : ExcName → Option Value} {mg mb : Str → Option Value}
local macro_rules | `(tactic| walk_at "zz") => `(tactic| fail "zz")

set_option maxRecDepth 100000 in
set_option maxHeartbeats 8000000 in
theorem leaf_uid {news : List (Addr × Obj)} {leaf sv : Value} {cx : Addr} {ps : List (Int × Int)} {num uid g1 g2 : Int} {fl : List Str} {u1 u2 : Tok} {n : Nat} (hl : DatIn news leaf (T.uid ps).dat) (hr : RowIn w news sv num uid fl) (hc : (cx, tupO [.int g1 u1, .int g2 u2] n) ∈ news) :
    Ct w p loose mean mg mb 788 [leaf, sv, .ref cx] news 5 (fun r n => r = .bool (leafP (T.uid ps) num uid fl g1 g2) ∧ n = news) := by
  obtain ⟨lx, hS, hL⟩ := hr
  obtain ⟨sx, sd, s0, s1, s2, s3, k, rfl, h1, h2⟩ := hS
  obtain ⟨a, x1, y, k, hle, hm, hx1, hy⟩ := dat_two hl
  obtain ⟨t1, rfl⟩ := dat_str hx1
  subst hle
  k_data
  refine' ct_of_body (binds := [(Str.ofString "leaf", .ref a), (Str.ofString "seen", .ref sx), (Str.ofString "context", .ref cx)]) ?o ?cd ?b ?l ?h ?c2 ?c3 ?c4 ?c5
  case o => k_is
  case cd => k_is
  case b => rfl
  case l => exact locs rfl
  case c2 => rfl
  case c3 => rfl
  case c4 => rfl
  case c5 => decide
  intro dp un gd outer A₀ base g L s B F X N T hd hu
  simp only [List.reverse_cons, List.reverse_nil, List.nil_append, List.cons_append, mOf] at F
  k_fold
  repeat ((fail_if_success (with_reducible show wpAny _ _ (call (Value.ref 781) _) _ _ _)); (first | walk1 | (dsimp only; walk1)))
  refine' ct_useU u_eq (simple_uid ?l7 ?L7 ?c7) ?_
  case l7 => (refine DatIn.mono ?_ (by assumption); k_sub)
  case L7 => exact LetterIn.mono (by assumption) (by k_sub)
  case c7 => k_mem
  intro _ _ _  _
  try dsimp only
  k_steps
  all_goals (first | exact Back.intro (by k_asm) (by k_asm) (by k_sub) ⟨rfl, rfl⟩ | w_report)

end
section
variable {w : World} {p : Program} {loose : List Str} {mean : ExcName → Option Value} {mg mb : Str → Option Value}

set_option maxRecDepth 100000 in
set_option maxHeartbeats 8000000 in
theorem leaf_flag {news : List (Addr × Obj)} {leaf sv : Value} {cx : Addr} {x : Str} {num uid g1 g2 : Int} {fl : List Str} {u1 u2 : Tok} {n : Nat} (hl : DatIn news leaf (T.flag x).dat) (hx : x ∈ SPELL) (hr : RowIn w news sv num uid fl) (hc : (cx, tupO [.int g1 u1, .int g2 u2] n) ∈ news) :
    Ct w p loose mean mg mb 788 [leaf, sv, .ref cx] news 5 (fun r n => r = .bool (leafP (T.flag x) num uid fl g1 g2) ∧ n = news) := by
  obtain ⟨lx, hS, hL⟩ := hr
  obtain ⟨sx, sd, s0, s1, s2, s3, k, rfl, h1, h2⟩ := hS
  obtain ⟨a, x1, y, k, hle, hm, hx1, hy⟩ := dat_two hl
  obtain ⟨t1, rfl⟩ := dat_str hx1
  subst hle
  k_data
  refine' ct_of_body (binds := [(Str.ofString "leaf", .ref a), (Str.ofString "seen", .ref sx), (Str.ofString "context", .ref cx)]) ?o ?cd ?b ?l ?h ?c2 ?c3 ?c4 ?c5
  case o => k_is
  case cd => k_is
  case b => rfl
  case l => exact locs rfl
  case c2 => rfl
  case c3 => rfl
  case c4 => rfl
  case c5 => decide
  intro dp un gd outer A₀ base g L s B F X N T hd hu
  simp only [List.reverse_cons, List.reverse_nil, List.nil_append, List.cons_append, mOf] at F
  k_fold
  repeat ((fail_if_success (with_reducible show wpAny _ _ (call (Value.ref 781) _) _ _ _)); (first | walk1 | (dsimp only; walk1)))
  refine' ct_useU u_eq (simple_flag ?l7 ?hx7 ?L7) ?_
  case l7 => (refine DatIn.mono ?_ (by assumption); k_sub)
  case hx7 => assumption
  case L7 => exact LetterIn.mono (by assumption) (by k_sub)
  intro _ _ _  _
  try dsimp only
  k_steps
  all_goals (first | exact Back.intro (by k_asm) (by k_asm) (by k_sub) ⟨rfl, rfl⟩ | w_report)

end
section
variable {w : World} {p : Program} {loose : List Str} {mean : ExcName → Option Value} {mg mb : Str → Option Value}
theorem leaf_ct {news : List (Addr × Obj)} {leaf sv : Value} {cx : Addr} {t : Mine.T} {num uid g1 g2 : Int} {fl : List Str} {u1 u2 : Tok} {n : Nat} (ht : t.leaf) (ho : t.ok) (hl : DatIn news leaf t.dat) (hr : RowIn w news sv num uid fl) (hc : (cx, tupO [.int g1 u1, .int g2 u2] n) ∈ news) :
    Ct w p loose mean mg mb 788 [leaf, sv, .ref cx] news 5 (fun r n => r = .bool (leafP t num uid fl g1 g2) ∧ n = news) := by
  cases t with
  | flag x => exact leaf_flag hl ho hr hc
  | seq ps => exact leaf_seq hl hr hc
  | uid ps => exact leaf_uid hl hr hc
  | all => exact ht.elim
  | nt => exact ht.elim
  | an => exact ht.elim
  | or => exact ht.elim
/-- the lambda's table: empty, or with the lambda's code -/
noncomputable def MQ : Str := (envOfC (Str.ofString "matches") { kind := .function, names := [], isGenerator := false, isCoroutine := false } 0 0 .none).qual ++ Str.ofString "<lambda>"
noncomputable def MT (S : List (Addr × Obj)) : Prop :=
  S = [(790, tabObj #[])] ∨ ∃ (c' : Addr) (oc : Obj) (ws : Array Value) (t : Tok), S = [(790, tabObj #[rawInt 662, rawInt 24, .ref c']), (c', oc)] ∧ oc.data = .fields ws ∧ ws[1]? = some (.str MQ t) ∧ @LT.lt Nat _ 790 c'
noncomputable def MOff (S rest : List (Addr × Obj)) : Prop := ∀ q ∈ S, ∀ r ∈ rest, @Ne Nat q.1 r.1
inductive MatchR (t : Mine.T) (num uid : Int) (fl : List Str) (g1 g2 : Int) (rest : List (Addr × Obj)) (r : Value) (n : List (Addr × Obj)) : Prop
  | mk (z0 : r = .bool (evalT (fun t => leafP t num uid fl g1 g2) t)) (S') (z1 : MT S') (z2 : MOff S' rest) (z3 : n = S' ++ rest) : MatchR t num uid fl g1 g2 rest r n
theorem u_match {t : Mine.T} {num uid : Int} {fl : List Str} {g1 g2 : Int} {rest : List (Addr × Obj)} (P : PR) (h : ∀ S', MT S' → MOff S' rest → P (.bool (evalT (fun t => leafP t num uid fl g1 g2) t)) (S' ++ rest)) (r : Value) (n : List (Addr × Obj)) (e : MatchR t num uid fl g1 g2 rest r n) : P r n := by
  obtain ⟨rfl, S', h0, h1, rfl⟩ := e
  exact h S' h0 h1

end
section
local macro_rules | `(tactic| walk_at "subscriptTail Name Constant ref int") => `(tactic| ((with_reducible show wpAny _ _ (subscriptTail _ _ (Value.ref _) (Value.int 0 _)) _ _ _); refine' sub_zero ?N ?m ?_; (case N => k_asm); (case m => k_mem)))
local macro_rules | `(tactic| walk_at "compareOp Eq str str") => `(tactic| ((with_reducible show wpAny _ _ (compareOp CmpOp.Eq (Value.str _ _) (Value.str _ _)) _ _ _); refine' eq_word_no ?h ?_; (case h => assumption)))
local macro_rules | `(tactic| walk_at "compareOp NotEq str str") => `(tactic| ((with_reducible show wpAny _ _ (compareOp CmpOp.NotEq (Value.str _ _) (Value.str _ _)) _ _ _); refine' ne_word_no ?h ?_; (case h => assumption)))
local macro_rules | `(tactic| k_sub) => `(tactic| first | exact List.forall_mem_nil _ | (refine sub_cons (by k_mem) ?_; k_sub) | (intro q9 hq9; (repeat (first | exact hq9 | refine List.mem_cons_of_mem _ ?_)); done))

section
variable {w : World} {p : Program} {loose : List Str} {mean : ExcName → Option Value} {mg mb : Str → Option Value}
set_option maxRecDepth 100000 in
set_option maxHeartbeats 8000000 in
theorem row_one {news : List (Addr × Obj)} {a b : T} {tv : Value} (ht : DatIn news tv (T.an a b).dat) (ha : ¬ isAnd a) :
    Ct w p loose mean mg mb 581 [tv] news 1 (fun r n => ∃ D va vb k, r = .ref D ∧ n = (D, listOf #[va, vb] k) :: news ∧ DatIn news va a.dat ∧ DatIn news vb b.dat) := by
  obtain ⟨x, x1, va, vb, k, rfl, hm, hx1, hva, hvb⟩ := dat_three ht
  obtain ⟨t1, rfl⟩ := dat_str hx1
  obtain ⟨y, r, k2, t2, rfl, hm2⟩ := dat_head hva
  have hw := word_ne_and ha
  k_data
  refine' ct_of_body (binds := [(Str.ofString "tree", .ref x)]) ?o ?cd ?b ?l ?h ?c2 ?c3 ?c4 ?c5
  case o => k_is
  case cd => k_is
  case b => rfl
  case l => exact locs rfl
  case c2 => rfl
  case c3 => rfl
  case c4 => rfl
  case c5 => decide
  intro dp un gd outer A₀ base g L s B F X N T hd hu
  simp only [List.reverse_cons, List.reverse_nil, List.nil_append, List.cons_append, mOf] at F
  k_fold
  k_steps
  show Back _ _ _ _ _ _
  exact Back.intro (by k_asm) (by k_asm) (by k_sub) ⟨_, _, _, 0, rfl, rfl, hva, hvb⟩
set_option maxRecDepth 100000 in
set_option maxHeartbeats 8000000 in
theorem row_two {news : List (Addr × Obj)} {a b c : T} {tv : Value} (ht : DatIn news tv (T.an (T.an a b) c).dat) (ha : ¬ isAnd a) :
    Ct w p loose mean mg mb 581 [tv] news 1 (fun r n => ∃ D va vb vc k, r = .ref D ∧ n = (D, listOf #[va, vb, vc] k) :: news ∧ DatIn news va a.dat ∧ DatIn news vb b.dat ∧ DatIn news vc c.dat) := by
  obtain ⟨x, x1, vab, vc, k, rfl, hm, hx1, hvab, hvc⟩ := dat_three ht
  obtain ⟨t1, rfl⟩ := dat_str hx1
  obtain ⟨x', x1', va, vb, k', rfl, hm', hx1', hva, hvb⟩ := dat_three hvab
  obtain ⟨t1', rfl⟩ := dat_str hx1'
  obtain ⟨y, r, k2, t2, rfl, hm2⟩ := dat_head hva
  have hw := word_ne_and ha
  k_data
  refine' ct_of_body (binds := [(Str.ofString "tree", .ref x)]) ?o ?cd ?b ?l ?h ?c2 ?c3 ?c4 ?c5
  case o => k_is
  case cd => k_is
  case b => rfl
  case l => exact locs rfl
  case c2 => rfl
  case c3 => rfl
  case c4 => rfl
  case c5 => decide
  intro dp un gd outer A₀ base g L s B F X N T hd hu
  simp only [List.reverse_cons, List.reverse_nil, List.nil_append, List.cons_append, mOf] at F
  k_fold
  k_steps
  show Back _ _ _ _ _ _
  exact Back.intro (by k_asm) (by k_asm) (by k_sub) ⟨_, _, _, _, 0, rfl, rfl, hva, hvb, hvc⟩
theorem rowAt_one {a b : T} (ha : ¬ isAnd a) : RowAt w p loose mean mg mb (.an a b) [a, b] := fun news tv ht => (row_one ht ha).mono fun r n h => by
  obtain ⟨D, va, vb, k, h1, h2, h3, h4⟩ := h
  exact ⟨D, [va, vb], k, h1, h2, .cons h3 (.cons h4 .nil)⟩
theorem rowAt_two {a b c : T} (ha : ¬ isAnd a) : RowAt w p loose mean mg mb (.an (.an a b) c) [a, b, c] := fun news tv ht => (row_two ht ha).mono fun r n h => by
  obtain ⟨D, va, vb, vc, k, h1, h2, h3, h4, h5⟩ := h
  exact ⟨D, [va, vb, vc], k, h1, h2, .cons h3 (.cons h4 (.cons h5 .nil))⟩

end
section
variable {w : World} {p : Program} {loose : List Str} {mean : ExcName → Option Value} {mg mb : Str → Option Value}
local macro_rules | `(tactic| walk_at "zz") => `(tactic| fail "zz")
set_option maxRecDepth 100000 in
set_option maxHeartbeats 8000000 in
theorem dec_all {P : T → Bool} {f : Addr} {base : List (Addr × Obj)} : DecAt w p loose mean mg mb P f base .all 1 := by
  intro news tv hb ht
  obtain ⟨x, v, n, rfl, hm, hv⟩ := dat_one ht
  obtain ⟨t1, rfl⟩ := dat_str hv
  k_data
  refine' ct_of_body (binds := [(Str.ofString "tree", .ref x), (Str.ofString "holds", .ref f)]) ?o ?cd ?b ?l ?h ?c2 ?c3 ?c4 ?c5
  case o => k_is
  case cd => k_is
  case b => rfl
  case l => exact locs rfl
  case c2 => rfl
  case c3 => rfl
  case c4 => rfl
  case c5 => decide
  intro dp un gd outer A₀ base g L s B F X N T hd hu
  simp only [List.reverse_cons, List.reverse_nil, List.nil_append, List.cons_append, mOf] at F
  k_fold
  k_steps
  exact Back.intro (by k_asm) (by k_asm) (by k_sub) ⟨rfl, rfl⟩

end
section
variable {w : World} {p : Program} {loose : List Str} {mean : ExcName → Option Value} {mg mb : Str → Option Value}

local macro_rules | `(tactic| walk_at "callWith ref nil nil") => `(tactic| (refine' callWith_F ?k1 ?_; (case k1 => exact FnAt.of (by k_asm) (by k_mem))))
local macro_rules | `(tactic| walk_at "FnAt") => `(tactic| (exact FnAt.of (by k_asm) (by k_mem)))
local macro_rules | `(tactic| walk_at "call ref") => `(tactic| ((with_reducible show wpAny _ _ (call (Value.ref _) _) _ _ _); refine' ct_useU u_eq (HoldsAt.use ?h ?t ?o ?b ?d) ?_; (case d => (refine DatIn.mono ?_ (by assumption); k_sub)); (case h => assumption); (case t => assumption); (case o => assumption); (case b => (refine sub_trans (by assumption) ?_; k_sub)); (intro h9 tk9 F9  N9); (try dsimp only)))
set_option maxRecDepth 100000 in
set_option maxHeartbeats 8000000 in
theorem dec_leaf {P : T → Bool} {f : Addr} {base : List (Addr × Obj)} {t : T} {k : Nat} (hH : HoldsAt w p loose mean mg mb P f base k) (hl : t.leaf) (ho : t.ok) {oc : Value} {od : Option Addr} {fd : FuncData} {sl : Array (Option Value)} (hfo : (f, (⟨oc, od, .func fd, sl⟩ : Obj)) ∈ base) : DecAt w p loose mean mg mb P f base t (k + 1) := by
  intro news tv hb ht
  have ht' := ht
  obtain ⟨y, r, n, t1, rfl, hm⟩ := dat_head ht'
  obtain ⟨w1, w2, w3, w4⟩ := leaf_words hl
  have hfn := hb _ hfo
  k_data
  refine' ct_of_body (binds := [(Str.ofString "tree", .ref y), (Str.ofString "holds", .ref f)]) ?o ?cd ?b ?l ?h ?c2 ?c3 ?c4 ?c5
  case o => k_is
  case cd => k_is
  case b => rfl
  case l => exact locs rfl
  case c2 => rfl
  case c3 => rfl
  case c4 => rfl
  case c5 => decide
  intro dp un gd outer A₀ base g L s B F X N T hd hu
  simp only [List.reverse_cons, List.reverse_nil, List.nil_append, List.cons_append, mOf] at F
  k_fold
  k_steps
  all_goals (first | exact Back.intro (by k_asm) (by k_asm) (by k_sub) ⟨by rw [evalT_leaf hl], rfl⟩ | (trace_state; w_report))

end
section
variable {w : World} {p : Program} {loose : List Str} {mean : ExcName → Option Value} {mg mb : Str → Option Value}

local macro_rules | `(tactic| walk_at "call ref") => `(tactic| ((with_reducible show wpAny _ _ (call (Value.ref 588) _) _ _ _); refine' ct_useU u_eq (DecAt.use ?i ?b ?d) ?_; (case d => (refine DatIn.mono ?_ (by assumption); k_sub)); (case i => assumption); (case b => (refine sub_trans (by assumption) ?_; k_sub)); (intro h9 tk9 F9  N9); (try dsimp only)))
set_option maxRecDepth 100000 in
set_option maxHeartbeats 8000000 in
theorem dec_not {P : T → Bool} {f : Addr} {base : List (Addr × Obj)} {a : T} {k : Nat} (hA : DecAt w p loose mean mg mb P f base a k) : DecAt w p loose mean mg mb P f base (.nt a) (k + 1) := by
  intro news tv hb ht
  obtain ⟨x, x1, va, n, rfl, hm, hx1, hva⟩ := dat_two ht
  obtain ⟨t1, rfl⟩ := dat_str hx1
  k_data
  refine' ct_of_body (binds := [(Str.ofString "tree", .ref x), (Str.ofString "holds", .ref f)]) ?o ?cd ?b ?l ?h ?c2 ?c3 ?c4 ?c5
  case o => k_is
  case cd => k_is
  case b => rfl
  case l => exact locs rfl
  case c2 => rfl
  case c3 => rfl
  case c4 => rfl
  case c5 => decide
  intro dp un gd outer A₀ base g L s B F X N T hd hu
  simp only [List.reverse_cons, List.reverse_nil, List.nil_append, List.cons_append, mOf] at F
  k_fold
  k_steps
  all_goals (first | exact Back.intro (by k_asm) (by k_asm) (by k_sub) ⟨rfl, rfl⟩ | (trace_state; w_report))
set_option maxRecDepth 100000 in
set_option maxHeartbeats 8000000 in
theorem dec_or {P : T → Bool} {f : Addr} {base : List (Addr × Obj)} {a b : T} {k : Nat} (hA : DecAt w p loose mean mg mb P f base a k) (hB : DecAt w p loose mean mg mb P f base b k) : DecAt w p loose mean mg mb P f base (.or a b) (k + 1) := by
  intro news tv hb ht
  obtain ⟨x, x1, va, vb, n, rfl, hm, hx1, hva, hvb⟩ := dat_three ht
  obtain ⟨t1, rfl⟩ := dat_str hx1
  k_data
  refine' ct_of_body (binds := [(Str.ofString "tree", .ref x), (Str.ofString "holds", .ref f)]) ?o ?cd ?b ?l ?h ?c2 ?c3 ?c4 ?c5
  case o => k_is
  case cd => k_is
  case b => rfl
  case l => exact locs rfl
  case c2 => rfl
  case c3 => rfl
  case c4 => rfl
  case c5 => decide
  intro dp un gd outer A₀ base g L s B F X N T hd hu
  simp only [List.reverse_cons, List.reverse_nil, List.nil_append, List.cons_append, mOf] at F
  k_fold
  k_steps
  all_goals exact Back.intro (by k_asm) (by k_asm) (by k_sub) ⟨by simp [evalT, *], rfl⟩

end
section
local macro_rules | `(tactic| walk_at "exec For Name Name cons nil") => `(tactic| ((rename Fr _ _ _ _ => lF'); (with_unfolding_all refine' For_turns lF' ?_)))
local macro_rules | `(tactic| walk_at "exec For Name Call cons nil") => `(tactic| ((rename Fr _ _ _ _ => lF'); (with_unfolding_all refine' For_turns lF' ?_)))
local macro_rules | `(tactic| walk_at "exec For Tuple Name cons nil") => `(tactic| ((rename Fr _ _ _ _ => lF'); (with_unfolding_all refine' For_turns lF' ?_)))

section
variable {w : World} {p : Program} {loose : List Str} {mean : ExcName → Option Value} {mg mb : Str → Option Value}
local macro_rules | `(tactic| walk_at "call ref") => `(tactic| ((with_reducible show wpAny _ _ (call (Value.ref 588) _) _ _ _); refine' ct_useU u_eq (DecAt.use ?i ?b ?d) ?_; (case d => (refine DatIn.mono ?_ (by assumption); k_sub)); (case i => assumption); (case b => (refine sub_trans (by assumption) ?_; k_sub)); (intro h9 tk9 F9  N9); (try dsimp only)))
set_option maxRecDepth 100000 in
set_option maxHeartbeats 8000000 in
theorem dec_and {P : T → Bool} {f : Addr} {bs0 : List (Addr × Obj)} {a b : T} {ts : List T} {k : Nat} (hR : RowAt w p loose mean mg mb (.an a b) ts) (hD : ∀ t ∈ ts, DecAt w p loose mean mg mb P f bs0 t k) (he : evalT P (.an a b) = ts.all (evalT P)) (hk : 0 < k) :
    DecAt w p loose mean mg mb P f bs0 (.an a b) (k + 1) := by
  intro news tv hb ht
  have ht' := ht
  obtain ⟨x, x1, va, vb, n, rfl, hm, hx1, hva, hvb⟩ := dat_three ht'
  obtain ⟨t1, rfl⟩ := dat_str hx1
  clear hva hvb ht'
  k_data
  refine' ct_of_body (binds := [(Str.ofString "tree", .ref x), (Str.ofString "holds", .ref f)]) ?o ?cd ?b ?l ?h ?c2 ?c3 ?c4 ?c5
  case o => k_is
  case cd => k_is
  case b => rfl
  case l => exact locs rfl
  case c2 => rfl
  case c3 => rfl
  case c4 => rfl
  case c5 => decide
  intro dp un gd outer A₀ base g L s B F X N T hd hu
  simp only [List.reverse_cons, List.reverse_nil, List.nil_append, List.cons_append, mOf] at F
  k_fold
  repeat ((fail_if_success (with_reducible show wpAny _ _ (call (Value.ref 581) _) _ _ _)); (first | walk1 | (dsimp only; walk1)))
  refine' ct_useU u_row (RowAt.use ?a7 ?d7) ?_
  case d7 => (refine DatIn.mono ?_ (by assumption); k_sub)
  case a7 => assumption
  intro _ _ _ _ _ _ _ _
  try dsimp only
  k_steps
  rename_i h9 tk9 F9 D9 vs9 k9 hv9 N9
  refine' list_keep (l := [(Str.ofString "holds", .ref f)]) (D := fun us => ∃ ts' : List Mine.T, (∀ t ∈ ts', DecAt w p loose mean mg mb P f bs0 t k) ∧ DatAll news us (ts'.map Mine.T.dat) ∧ evalT P (.an a b) = ts'.all (evalT P)) rfl F9 N9 (List.Mem.head _) ⟨rfl, trivial⟩ ⟨ts, hD, hv9, he⟩ ?_ ?_
  · clear F9 N9
    intro m h tk hD F N
    obtain ⟨ts', _, hs, e⟩ := hD
    have : ts' = [] := by cases ts' with | nil => rfl | cons q qs => cases hs
    subst this
    simp only [mOn] at F
    change Fr g L _ _ at F
    change News g L _ _ at N
    dsimp only
    k_steps
    all_goals (first | exact Back.intro (by k_asm) (by k_asm) (by k_sub) ⟨by rw [e]; rfl, rfl⟩ | w_report)
  · clear F9 N9
    intro I v r m h tk o hI hD ho F N
    obtain ⟨ts', hd', hs, e⟩ := hD
    simp only [mOn] at F
    change Fr g L _ _ at F
    change News g L _ _ at N
    cases ts' with
    | nil => cases hs
    | cons t ts' =>
    obtain ⟨v', r', e', hv, hr⟩ := dat_cons hs
    obtain ⟨rfl, rfl⟩ := List.cons.inj e'
    have hdt := hd' t List.mem_cons_self
    k_steps
    all_goals (try dsimp only)
    all_goals first
      | exact turn_fix (by k_asm) (by k_asm) (by k_mem) (by k_sub) (by assumption) (by k_sub) ⟨rfl, trivial⟩ ⟨ts', fun t ht => hd' t (List.mem_cons_of_mem _ ht), hr, by rw [e]; simp [*]⟩
      | exact Back.intro (by k_asm) (by k_asm) (by k_sub) ⟨by rw [e]; simp [*], rfl⟩
      | (trace_state; w_report)

end
end
section
variable {w : World} {p : Program} {loose : List Str} {mean : ExcName → Option Value} {mg mb : Str → Option Value}
theorem DecAt.mono {P : T → Bool} {f : Addr} {bs0 : List (Addr × Obj)} {t : T} {k k' : Nat} (h : DecAt w p loose mean mg mb P f bs0 t k) (i : k ≤ k') : DecAt w p loose mean mg mb P f bs0 t k' := fun news tv hb hd => (h news tv hb hd).need i
theorem dec_ct {P : T → Bool} {f : Addr} {bs0 : List (Addr × Obj)} {k : Nat} (hH : HoldsAt w p loose mean mg mb P f bs0 k) {oc : Value} {od : Option Addr} {fd : FuncData} {sl : Array (Option Value)} (hfo : (f, (⟨oc, od, .func fd, sl⟩ : Obj)) ∈ bs0) :
    ∀ (n : Nat) (t : Mine.T), t.ok → t.depth ≤ n → n ≤ 2 → DecAt w p loose mean mg mb P f bs0 t (k + 1 + n)
  | n, .all, _, _, _ => dec_all.mono (by omega)
  | n, .flag x, ho, _, _ => (dec_leaf (t := .flag x) hH trivial ho hfo).mono (by omega)
  | n, .seq x, ho, _, _ => (dec_leaf (t := .seq x) hH trivial ho hfo).mono (by omega)
  | n, .uid x, ho, _, _ => (dec_leaf (t := .uid x) hH trivial ho hfo).mono (by omega)
  | 0, .nt a, _, h, _ => absurd h (by simp [T.depth])
  | 0, .or a b, _, h, _ => absurd h (by simp [T.depth])
  | 0, .an a b, _, h, _ => absurd h (by simp [T.depth])
  | n + 1, .nt a, ho, h, hn => dec_not (dec_ct hH hfo n a ho (by simpa [T.depth] using h) (by omega))
  | n + 1, .or a b, ho, h, hn => dec_or (dec_ct hH hfo n a ho.1 (by simp only [T.depth] at h; omega) (by omega)) (dec_ct hH hfo n b ho.2 (by simp only [T.depth] at h; omega) (by omega))
  | n + 1, .an a b, ho, h, hn => by
    have ia := dec_ct hH hfo n a ho.1 (by simp only [T.depth] at h; omega) (by omega)
    have ib := dec_ct hH hfo n b ho.2 (by simp only [T.depth] at h; omega) (by omega)
    by_cases ha : isAnd a
    · cases a with
      | an a1 a2 =>
        have h0 : a1.depth = 0 ∧ a2.depth = 0 := by simp only [T.depth] at h; omega
        have i1 := dec_ct hH hfo n a1 ho.1.1 (by omega) (by omega)
        have i2 := dec_ct hH hfo n a2 ho.1.2 (by omega) (by omega)
        have hn1 : ¬ isAnd a1 := by
          intro h1
          cases a1 with
          | an => simp [T.depth] at h0
          | _ => exact h1
        refine dec_and (k := k + 1 + n) (rowAt_two hn1) (fun t ht => ?_) (by simp [evalT, Bool.and_assoc]) (by omega)
        simp only [List.mem_cons, List.not_mem_nil, or_false] at ht
        rcases ht with rfl | rfl | rfl
        · exact i1
        · exact i2
        · exact ib
      | _ => exact ha.elim
    · refine dec_and (k := k + 1 + n) (rowAt_one ha) (fun t ht => ?_) (by simp [evalT]) (by omega)
      simp only [List.mem_cons, List.not_mem_nil, or_false] at ht
      rcases ht with rfl | rfl
      · exact ia
      · exact ib

end
end
section
variable {w : World} {p : Program} {loose : List Str} {mean : ExcName → Option Value} {mg mb : Str → Option Value}
theorem moff_two {x y : Addr} {o u : Obj} {rest : List (Addr × Obj)} (h1 : ∀ r ∈ rest, @Ne Nat x r.1) (h2 : ∀ r ∈ rest, @Ne Nat y r.1) : MOff [(x, o), (y, u)] rest := fun q hq r hr => by
  rcases List.mem_cons.mp hq with rfl | hq
  · exact h1 r hr
  · rw [List.mem_singleton.mp hq]; exact h2 r hr
set_option maxRecDepth 100000 in
set_option maxHeartbeats 8000000 in
theorem matches_fresh {rest : List (Addr × Obj)} {tv sv : Value} {cx : Addr} {t : Mine.T} {num uid g1 g2 : Int} {fl : List Str} {u1 u2 : Tok} {n : Nat} (hr : ∀ q ∈ rest, q.1 ≠ 790) (ht : DatIn rest tv t.dat) (hok : t.ok) (hdep : t.depth ≤ 2)
    (hrow : RowIn w rest sv num uid fl) (hc : (cx, tupO [.int g1 u1, .int g2 u2] n) ∈ rest) : Ct w p loose mean mg mb 795 [tv, sv, .ref cx] ((790, tabObj #[]) :: rest) 12 (MatchR t num uid fl g1 g2 rest) := by
  k_data
  refine' ct_of_bodyC (binds := [(Str.ofString "tree", tv), (Str.ofString "seen", sv), (Str.ofString "context", .ref cx)]) ?o9 ?cd9 ?b9 ?l9 ?nd9 ?h9 ?c29 ?c39 ?c49
  case o9 => k_is
  case cd9 => k_is
  case b9 => rfl
  case l9 => rfl
  case nd9 => decide +kernel
  case c29 => rfl
  case c39 => rfl
  case c49 => rfl
  intro dp un gd outer A₀ base g L s cells B F X N T Y hlt hd hu
  k_cells Y
  have C := codeHd_of_K (c := 794) (P := 790) X (by kernel_rfl)
  simp only [List.cons_append, List.nil_append] at N
  have h790 : @LT.lt Nat _ 790 L := hlt _ List.mem_cons_self
  have e1 : @Ne Nat (L + 1 + 1) 790 := by omega
  have e2 : @Ne Nat (L + 1) 790 := by omega
  repeat ((fail_if_success (with_reducible show wpAny _ _ (call (Value.ref 588) _) _ _ _)); (first | walk1 | (dsimp only; walk1)))
  rename_i o2 o1 g2d g1d f1 c1 oc ws t1 ct1 h1 tk1 F1 N1 d1 d2 l1 l2
  have hd2 : o2.data = .cell (some (.ref cx)) := g2d
  have hd1 : o1.data = .cell (some sv) := g1d
  clear g1d g2d
  simp only [Array.empty_append] at N1
  refine' ct_useU u_eq (DecAt.use (dec_ct (k := 6) (P := fun t => leafP t num uid fl g1 g2) ?hH ?hfo 2 t hok hdep (Nat.le_refl _)) (fun _ h => h) ?hd) ?ret (F := F1) (N := N1) (hd := ?r1) (hu := ?r2)
  case hfo => exact List.mem_cons_self ..
  case hd => exact DatIn.mono (by k_sub) ht
  case r1 => omega
  case r2 => omega
  case hH =>
    clear N1 F1 N F B hd hu hlt X T
    intro t' htl hto news' tv' hb hdt
    have m1 := hb _ (List.mem_cons_self ..)
    have m2 := hb _ (List.mem_cons_of_mem _ (List.mem_cons_self ..))
    have m3 := hb _ (List.mem_cons_of_mem _ (List.mem_cons_of_mem _ (List.mem_cons_self ..)))
    have m4 := hb _ (List.mem_cons_of_mem _ (List.mem_cons_of_mem _ (List.mem_cons_of_mem _ (List.mem_cons_self ..))))
    have hrest : ∀ q ∈ rest, q ∈ news' := fun q hq => hb q (by simp [hq])
    have m5 := hrest _ hc
    have hrow' := hrow.mono hrest
    clear hb hrest hrow hc ht
    refine ct_of_lam (binds := [(Str.ofString "leaf", tv')]) m1 m2 d1 d2 rfl ?_ ?_ rfl rfl rfl (by decide)
    · exact locs rfl
    · intro dp un gd outer A₀ base g' L' s' B F X N T hd hu
      simp only [List.reverse_cons, List.reverse_nil, List.nil_append, List.cons_append, mOf] at F
      k_fold
      repeat ((fail_if_success (with_reducible show wpAny _ _ (call (Value.ref 788) _) _ _ _)); (first | walk1 | (dsimp only; walk1)))
      refine' ct_useU u_eq (leaf_ct ?t7 ?o7 ?l7 ?r7 ?c7) ?_
      case l7 => (refine DatIn.mono ?_ (by assumption); k_sub)
      case t7 => assumption
      case o7 => assumption
      case r7 => exact RowIn.mono (by assumption) (by k_sub)
      case c7 => k_mem
      intro _ _ _  _
      try dsimp only
      k_steps
      all_goals exact Back.intro (by k_asm) (by k_asm) (by k_sub) ⟨rfl, rfl⟩
  case ret =>
    clear N1 F1 N F B hd hu hlt
    intro h9 tk9 F9 N9
    refine Back.intro F9 N9 (news' := (790, tabObj #[rawInt 662, rawInt 24, .ref c1]) :: (c1, oc) :: rest) (fun q hq => ?_) ⟨rfl, _, .inr ⟨c1, oc, ws, t1, rfl, d1, d2, l1.2.2.1⟩, moff_two (fun r h => Ne.symm (hr r h)) (fun r h => Nat.ne_of_gt (allLt_mem l1.2.2.2 r h)), rfl⟩
    rcases List.mem_cons.mp hq with rfl | hq
    · exact List.mem_cons_of_mem _ (List.mem_cons_of_mem _ (List.mem_cons_of_mem _ (List.mem_cons_of_mem _ (List.mem_cons_self ..))))
    rcases List.mem_cons.mp hq with rfl | hq
    · exact List.mem_cons_of_mem _ (List.mem_cons_self ..)
    · exact List.mem_cons_of_mem _ (List.mem_cons_of_mem _ (List.mem_cons_of_mem _ (List.mem_cons_of_mem _ (List.mem_cons_of_mem _ hq))))
set_option maxRecDepth 100000 in
set_option maxHeartbeats 8000000 in
theorem matches_hit {c1 : Addr} {oc : Obj} {ws : Array Value} {t1 : Tok} {rest : List (Addr × Obj)} {tv sv : Value} {cx : Addr} {t : Mine.T} {num uid g1 g2 : Int} {fl : List Str} {u1 u2 : Tok} {n : Nat} (d1 : oc.data = .fields ws) (d2 : ws[1]? = some (.str MQ t1)) (hlc : @LT.lt Nat _ 790 c1) (hmo : MOff [(790, tabObj #[rawInt 662, rawInt 24, .ref c1]), (c1, oc)] rest) (ht : DatIn rest tv t.dat) (hok : t.ok) (hdep : t.depth ≤ 2)
    (hrow : RowIn w rest sv num uid fl) (hc : (cx, tupO [.int g1 u1, .int g2 u2] n) ∈ rest) : Ct w p loose mean mg mb 795 [tv, sv, .ref cx] ((790, tabObj #[rawInt 662, rawInt 24, .ref c1]) :: (c1, oc) :: rest) 12 (MatchR t num uid fl g1 g2 rest) := by
  k_data
  refine' ct_of_bodyC (binds := [(Str.ofString "tree", tv), (Str.ofString "seen", sv), (Str.ofString "context", .ref cx)]) ?o9 ?cd9 ?b9 ?l9 ?nd9 ?h9 ?c29 ?c39 ?c49
  case o9 => k_is
  case cd9 => k_is
  case b9 => rfl
  case l9 => rfl
  case nd9 => decide +kernel
  case c29 => rfl
  case c39 => rfl
  case c49 => rfl
  intro dp un gd outer A₀ base g L s cells B F X N T Y hlt hd hu
  k_cells Y
  have C := codeHd_of_K (c := 794) (P := 790) X (by kernel_rfl)
  simp only [List.cons_append, List.nil_append] at N
  have h790 : @LT.lt Nat _ 790 L := hlt _ List.mem_cons_self
  have e1 : @Ne Nat (L + 1 + 1) 790 := by omega
  have e2 : @Ne Nat (L + 1) 790 := by omega
  repeat ((fail_if_success (with_reducible show wpAny _ _ (call (Value.ref 588) _) _ _ _)); (first | walk1 | (dsimp only; walk1)))
  rename_i o2 o1 g2d g1d f1 ct1 h1 tk1 F1 N1 l2
  have hd2 : o2.data = .cell (some (.ref cx)) := g2d
  have hd1 : o1.data = .cell (some sv) := g1d
  clear g1d g2d
  refine' ct_useU u_eq (DecAt.use (dec_ct (k := 6) (P := fun t => leafP t num uid fl g1 g2) ?hH ?hfo 2 t hok hdep (Nat.le_refl _)) (fun _ h => h) ?hd) ?ret (F := F1) (N := N1) (hd := ?r1) (hu := ?r2)
  case hfo => exact List.mem_cons_self ..
  case hd => exact DatIn.mono (by k_sub) ht
  case r1 => omega
  case r2 => omega
  case hH =>
    clear N1 F1 N F B hd hu hlt X T
    intro t' htl hto news' tv' hb hdt
    have m1 := hb _ (List.mem_cons_self ..)
    have m3 := hb _ (List.mem_cons_of_mem _ (List.mem_cons_self ..))
    have m4 := hb _ (List.mem_cons_of_mem _ (List.mem_cons_of_mem _ (List.mem_cons_self ..)))
    have m2 := hb _ (List.mem_cons_of_mem _ (List.mem_cons_of_mem _ (List.mem_cons_of_mem _ (List.mem_cons_of_mem _ (List.mem_cons_self ..)))))
    have hrest : ∀ q ∈ rest, q ∈ news' := fun q hq => hb q (by simp [hq])
    have m5 := hrest _ hc
    have hrow' := hrow.mono hrest
    clear hb hrest hrow hc ht
    refine ct_of_lam (binds := [(Str.ofString "leaf", tv')]) m1 m2 d1 d2 rfl ?_ ?_ rfl rfl rfl (by decide)
    · exact locs rfl
    · intro dp un gd outer A₀ base g' L' s' B F X N T hd hu
      simp only [List.reverse_cons, List.reverse_nil, List.nil_append, List.cons_append, mOf] at F
      k_fold
      repeat ((fail_if_success (with_reducible show wpAny _ _ (call (Value.ref 788) _) _ _ _)); (first | walk1 | (dsimp only; walk1)))
      refine' ct_useU u_eq (leaf_ct ?t7 ?o7 ?l7 ?r7 ?c7) ?_
      case l7 => (refine DatIn.mono ?_ (by assumption); k_sub)
      case t7 => assumption
      case o7 => assumption
      case r7 => exact RowIn.mono (by assumption) (by k_sub)
      case c7 => k_mem
      intro _ _ _  _
      try dsimp only
      k_steps
      all_goals exact Back.intro (by k_asm) (by k_asm) (by k_sub) ⟨rfl, rfl⟩
  case ret =>
    clear N1 F1 N F B hd hu hlt
    intro h9 tk9 F9 N9
    exact Back.intro F9 N9 (news' := (790, tabObj #[rawInt 662, rawInt 24, .ref c1]) :: (c1, oc) :: rest) (fun q hq => List.mem_cons_of_mem _ (List.mem_cons_of_mem _ (List.mem_cons_of_mem _ hq))) ⟨rfl, _, .inr ⟨c1, oc, ws, t1, rfl, d1, d2, hlc⟩, hmo, rfl⟩
theorem matches_ct {S rest : List (Addr × Obj)} {tv sv : Value} {cx : Addr} {t : Mine.T} {num uid g1 g2 : Int} {fl : List Str} {u1 u2 : Tok} {n : Nat} (hS : MT S) (hmo : MOff S rest) (ht : DatIn rest tv t.dat) (hok : t.ok) (hdep : t.depth ≤ 2)
    (hrow : RowIn w rest sv num uid fl) (hc : (cx, tupO [.int g1 u1, .int g2 u2] n) ∈ rest) : Ct w p loose mean mg mb 795 [tv, sv, .ref cx] (S ++ rest) 12 (MatchR t num uid fl g1 g2 rest) := by
  rcases hS with rfl | ⟨c1, oc, ws, t1, rfl, d1, d2, hlc⟩
  · exact matches_fresh (fun q hq => Ne.symm (hmo (790, tabObj #[]) (List.mem_cons_self ..) q hq)) ht hok hdep hrow hc
  · exact matches_hit d1 d2 hlc hmo ht hok hdep hrow hc

end
section
local macro_rules | `(tactic| walk_at "subscriptTail Name Constant ref int") => `(tactic| ((with_reducible show wpAny _ _ (subscriptTail _ _ (Value.ref _) (Value.int 0 _)) _ _ _); refine' sub_zero ?N ?m ?_; (case N => k_asm); (case m => k_mem)))
local macro_rules | `(tactic| walk_at "compareOp Eq str str") => `(tactic| ((with_reducible show wpAny _ _ (compareOp CmpOp.Eq (Value.str _ _) (Value.str _ _)) _ _ _); refine' eq_word_no ?h ?_; (case h => assumption)))
local macro_rules | `(tactic| walk_at "compareOp NotEq str str") => `(tactic| ((with_reducible show wpAny _ _ (compareOp CmpOp.NotEq (Value.str _ _) (Value.str _ _)) _ _ _); refine' ne_word_no ?h ?_; (case h => assumption)))
local macro_rules | `(tactic| k_sub) => `(tactic| first | exact List.forall_mem_nil _ | (refine sub_cons (by k_mem) ?_; k_sub) | (intro q9 hq9; (repeat (first | exact hq9 | refine List.mem_cons_of_mem _ ?_)); done))

section
variable {w : World} {p : Program} {loose : List Str} {mean : ExcName → Option Value} {mg mb : Str → Option Value}
local macro_rules | `(tactic| walk_at "compareOp NotEq ref ref") => `(tactic| ((with_reducible show wpAny _ _ (compareOp CmpOp.NotEq (Value.ref _) (Value.ref _)) _ _ _); k_dflt (refine' ne_nil ?N ?a ?b ?u ?_; (case N => k_asm); (case b => k_mem); (case a => k_mem); (case u => ke_room))))
set_option maxRecDepth 100000 in
set_option maxHeartbeats 8000000 in
theorem ctx_nil {news : List (Addr × Obj)} {a : Addr} {k : Nat} (hm : (a, listOf ([] : List Value).toArray k) ∈ news) : Ct w p loose mean mg mb 802 [.ref a] news 1 (fun r n => ∃ D u1 u2 k, r = .ref D ∧ (∀ q ∈ news, q.1 < D) ∧ n = (D, tupO [.int 0 u1, .int 0 u2] k) :: news) := by
  k_data
  refine' ct_of_body (binds := [(Str.ofString "rows", .ref a)]) ?o ?cd ?b ?l ?h ?c2 ?c3 ?c4 ?c5
  case o => k_is
  case cd => k_is
  case b => rfl
  case l => exact locs rfl
  case c2 => rfl
  case c3 => rfl
  case c4 => rfl
  case c5 => decide
  intro dp un gd outer A₀ base g L s B F X N T hd hu
  simp only [List.reverse_cons, List.reverse_nil, List.nil_append, List.cons_append, mOf] at F
  k_fold
  k_steps
  all_goals (first | exact Back.intro (by k_asm) (by k_asm) (by k_sub) ⟨_, _, _, 0, rfl, fun q hq => allLt_mem (And.right (by assumption : _ ∧ AllLt _ news)) q hq, rfl⟩ | (trace_state; w_report))

end
section
variable {w : World} {p : Program} {loose : List Str} {mean : ExcName → Option Value} {mg mb : Str → Option Value}

local macro_rules | `(tactic| walk_at "subscriptTail Name UnaryOp ref int") => `(tactic| ((with_reducible show wpAny _ _ (subscriptTail _ _ (Value.ref _) (Value.int _ _)) _ _ _); k_dflt (refine' sub_last ?N ?m ?_; (case N => k_asm); (case m => k_mem))))
local macro_rules | `(tactic| walk_at "compareOp NotEq ref ref") => `(tactic| ((with_reducible show wpAny _ _ (compareOp CmpOp.NotEq (Value.ref _) (Value.ref _)) _ _ _); k_dflt (refine' ne_nil_snoc ?N ?a ?b ?u ?_; (case N => k_asm); (case b => k_mem); (case a => k_mem); (case u => ke_room))))
set_option maxRecDepth 100000 in
set_option maxHeartbeats 8000000 in
theorem ctx_snoc {news : List (Addr × Obj)} {a : Addr} {k : Nat} {vs : List Value} {v : Value} {num uid : Int} {fl : List Str} (hm : (a, listOf (vs ++ [v]).toArray k) ∈ news) (hr : RowIn w news v num uid fl) :
    Ct w p loose mean mg mb 802 [.ref a] news 1 (fun r n => ∃ D u1 u2 k, r = .ref D ∧ (∀ q ∈ news, q.1 < D) ∧ n = (D, tupO [.int num u1, .int uid u2] k) :: news) := by
  obtain ⟨lx, hS, hL⟩ := hr
  obtain ⟨sx, sd, s0, s1, s2, s3, k2, rfl, h1, h2⟩ := hS
  obtain ⟨d, fx, z0, z1, z2, z3, z4, z5, ov, iv, mv, fvs, k1, n1, h5, h6, h3, h4⟩ := hL
  k_data
  refine' ct_of_body (binds := [(Str.ofString "rows", .ref a)]) ?o ?cd ?b ?l ?h ?c2 ?c3 ?c4 ?c5
  case o => k_is
  case cd => k_is
  case b => rfl
  case l => exact locs rfl
  case c2 => rfl
  case c3 => rfl
  case c4 => rfl
  case c5 => decide
  intro dp un gd outer A₀ base g L s B F X N T hd hu
  simp only [List.reverse_cons, List.reverse_nil, List.nil_append, List.cons_append, mOf] at F
  k_fold
  k_steps
  all_goals (first | exact Back.intro (by k_asm) (by k_asm) (by k_sub) ⟨_, _, _, 0, rfl, fun q hq => allLt_mem (And.right (by assumption : _ ∧ AllLt _ news)) q hq, rfl⟩ | (trace_state; w_report))
theorem ctx_ct {news : List (Addr × Obj)} {a : Addr} {k : Nat} {vs : List Value} {rs : List (Int × Int × List Str)} (hm : (a, listOf vs.toArray k) ∈ news) (hr : RowsIn w news vs rs) :
    Ct w p loose mean mg mb 802 [.ref a] news 1 (fun r n => ∃ D u1 u2 k, r = .ref D ∧ (∀ q ∈ news, q.1 < D) ∧ n = (D, tupO [.int (ctxOf rs).1 u1, .int (ctxOf rs).2 u2] k) :: news) := by
  rcases List.eq_nil_or_concat vs with rfl | ⟨vs', v, rfl⟩
  · match rs, hr with
    | [], _ => exact ctx_nil hm
  · rw [List.concat_eq_append] at hm hr
    obtain ⟨rs', r, rfl, _, hr'⟩ := hr.snoc
    rw [ctxOf_snoc]
    exact ctx_snoc hm hr'

end
section
local macro_rules | `(tactic| walk_at "eval ListComp") => `(tactic| ((rename Fr _ _ _ _ => lF'); (first | ((with_reducible show wpAny _ _ (eval (PySem.Expr.ListComp _ [⟨_, _, [], 0⟩] _ _) _) _ _ _); k_dflt (refine' ListComp_G (ct := none) lF' ?c1 ?c2 ?c3 ?c4 ?_)) | ((with_reducible show wpAny _ _ (eval (PySem.Expr.ListComp _ [⟨_, _, [_], 0⟩] _ _) _) _ _ _); k_dflt (refine' ListComp_G (ct := some _) lF' ?c1 ?c2 ?c3 ?c4 ?_))); (case c1 => k_dflt (exact rfl)); (case c2 => k_dflt decide); (case c3 => k_dflt (exact rfl)); (case c4 => k_dflt decide)))
local macro_rules | `(tactic| walk_at "exec Assign cons ListComp") => `(tactic| ((rename Fr _ _ _ _ => lF'); (first | ((with_reducible show wpAny _ _ (exec (PySem.Stmt.Assign _ (PySem.Expr.ListComp _ [⟨_, _, [], 0⟩] _ _) _) _) _ _ _); k_dflt (refine' Assign_ListComp_G (ct := none) lF' ?c0 ?cs ?c1 ?c2 ?c3 ?c4 ?c5 ?c6 ?_)) | ((with_reducible show wpAny _ _ (exec (PySem.Stmt.Assign _ (PySem.Expr.ListComp _ [⟨_, _, [_], 0⟩] _ _) _) _) _ _ _); k_dflt (refine' Assign_ListComp_G (ct := some _) lF' ?c0 ?cs ?c1 ?c2 ?c3 ?c4 ?c5 ?c6 ?_))); (case c0 => k_dflt (exact rfl)); (case cs => k_dflt (exact rfl)); (case c1 => k_dflt (exact rfl)); (case c2 => k_dflt decide); (case c3 => k_dflt (exact rfl)); (case c4 => k_dflt decide); (case c5 => k_dflt (exact rfl)); (case c6 => k_dflt (exact rfl))))

section
variable {w : World} {p : Program} {loose : List Str} {mean : ExcName → Option Value} {mg mb : Str → Option Value}
local macro_rules | `(tactic| walk_at "zz") => `(tactic| fail "zz")
set_option maxRecDepth 100000 in
set_option maxHeartbeats 8000000 in
theorem byuid_ct {R0 news : List (Addr × Obj)} {a : Addr} {rvs : List Value} {k : Nat} {rs : List (Int × Int × List Str)} (hs : ∀ q ∈ R0, q ∈ news) (hm : (a, listOf rvs.toArray k) ∈ news) (hrs : RowsIn w R0 rvs rs) (hsz : rvs.length ≤ 100) :
    Ct w p loose mean mg mb 819 [.ref a] news 3 (fun r n => ∃ (D : Addr) (vs : List Value) (k : Nat) (ex : List (Addr × Obj)), r = .ref D ∧ n = (D, listOf vs.toArray k) :: (ex ++ news) ∧ Apart ((D, listOf vs.toArray k) :: ex) news ∧ RowsIn w (ex ++ R0) vs (rs.map uidRow)) := by
  k_data
  refine' ct_of_body (binds := [(Str.ofString "rows", .ref a)]) ?o ?cd ?b ?l ?h ?c2 ?c3 ?c4 ?c5
  case o => k_is
  case cd => k_is
  case b => rfl
  case l => exact locs rfl
  case c2 => rfl
  case c3 => rfl
  case c4 => rfl
  case c5 => decide
  intro dp un gd outer A₀ base g L s B F X N T hd hu
  simp only [List.reverse_cons, List.reverse_nil, List.nil_append, List.cons_append, mOf] at F
  k_fold
  k_steps
  rename_i F
  refine' src_list (BN (Str.ofString "seen")) (JV fun us ys n => ∃ rs1 rs2 ex, rs = rs1 ++ rs2 ∧ n = ex ++ news ∧ Apart ex news ∧ RowsIn w R0 us rs2 ∧ RowsIn w (ex ++ R0) ys (rs1.map uidRow))
    rfl F N hm (Nat.le_trans hsz (by decide)) (takes_name rfl (by decide +kernel)) ⟨rvs, rfl, [], rs, [], rfl, rfl, Apart.nil, hrs, trivial⟩ ?_ ?_ ?_
  · rintro r ys n ⟨us, _, rs1, rs2, ex, _, rfl, _⟩
    exact sub_app _ hm
  · intro g0
    refine turns_val fun v r ys n I oI C oC Dd m₂ h tk E' hD hB F hI hoC N hne hoff => ?_
    obtain ⟨rs1, rs2, ex, hrs0, rfl, hap, hus, hys⟩ := hD
    have hx := hB v rfl
    match rs2, hus with
    | r0 :: rs2, hus =>
    obtain ⟨lx, hS, hL⟩ := hus.1
    obtain ⟨sx, sd, s0, s1, s2, s3, k2, rfl, q1, q2⟩ := hS
    have hL' := hL
    obtain ⟨d, fx, z0, z1, z2, z3, z4, z5, ov, iv, mv, fvs, k1, n1, h5, h6, h3, h4⟩ := hL'
    have q1 := sub_app (ex := ex) _ (hs _ q1)
    have q2 := sub_app (ex := ex) _ (hs _ q2)
    have h5 := sub_app (ex := ex) _ (hs _ h5)
    have h6 := sub_app (ex := ex) _ (hs _ h6)
    simp only [Tst, if_true]
    repeat ((fail_if_success (with_reducible show wpAny _ _ (call (Value.ref 685) _) _ _ _)); (first | walk1 | (dsimp only; walk1)))
    refine' ct_useU u_new (seen_new) ?_
    intro _ _ _ _ _ _ _ _ _ _
    try dsimp only
    k_steps
    rename_i h9 tk9 F9 x9 d9 l9 hs9 ho9 hlt9 N9
    have hap9 := seen_apart hs9 ho9 hlt9
    refine cend_new F9 N9 hoC hap9 hoff ⟨rs1 ++ [r0], rs2, l9 ++ ex, by simp [hrs0], (List.append_assoc ..).symm, (hap9.sub (fun q hq => by simp [hq])).app hap, hus.2, ?_⟩
    rw [List.map_append, List.append_assoc]
    exact (hys.mono sub_app).app ⟨seen_row (num := r0.2.1) hs9 (fun q hq => List.mem_append_left _ hq) (hL.mono fun q hq => by simp [hq]), trivial⟩
  · intro g0 ys n hJ D h tk F N hoff
    obtain ⟨us, e, rs1, rs2, ex, hrs0, rfl, hap, hus, hys⟩ := hJ
    have := map_val_nil e
    subst this
    match rs2, hus with
    | [], _ =>
    rw [List.append_nil] at hrs0
    subst hrs0
    k_steps
    all_goals (show Back _ _ _ _ _ _; exact Back.intro F N (fun _ h => h) ⟨D, ys, ys.length, ex, rfl, rfl, Apart.cons (fun r hr => Ne.symm (hoff r (sub_app r hr))) hap, hys⟩)

end
section
variable {w : World} {p : Program} {loose : List Str} {mean : ExcName → Option Value} {mg mb : Str → Option Value}
theorem cend_tab {h₀ : Heap} {L : Addr} {m : Str → Option Value} {s₁ : Shared} {I C Dd : Addr} {oI oC : Obj} {m₂ : Str → Option Value} {ys : List Value} {P : List (Addr × Obj) → Prop} {h' : Heap} {tk : Nat} {l n : List (Addr × Obj)}
    (F : Fr h₀ L h' m) (N : News h₀ L h' (l ++ (I, oI) :: (C, oC) :: (Dd, LCg.lst ys) :: n)) (hoC : LCg.NsObj oC m₂) (hap : MOff l ((I, oI) :: (C, oC) :: (Dd, LCg.lst ys) :: n)) (hoff : ∀ p ∈ n, (@Ne Nat p.1 I) ∧ (@Ne Nat p.1 C) ∧ (@Ne Nat p.1 Dd)) (r : P (l ++ n)) :
    CEnd h₀ L m s₁ [(I, oI)] C Dd ys P { s₁ with heap := h', toks := tk } := cend_new F N hoC hap hoff r
noncomputable def rowP (t : Mine.T) (g : Int × Int) (r : Int × Int × List Str) : Bool := evalT (fun t => leafP t r.1 r.2.1 r.2.2 g.1 g.2) t
inductive SearchR (fs : List Int) (rest : List (Addr × Obj)) (r : Value) (n : List (Addr × Obj)) : Prop
  | mk (D : Addr) (ys : List Value) (k : Nat) (S' : List (Addr × Obj)) (z0 : r = .ref D) (z1 : MT S') (z2 : IntsAre ys fs) (z3 : n = S' ++ (D, listOf ys.toArray k) :: rest) (z4 : MOff S' ((D, listOf ys.toArray k) :: rest)) (z5 : ∀ q ∈ rest, @Ne Nat q.1 D) : SearchR fs rest r n
theorem u_search {fs : List Int} {rest : List (Addr × Obj)} (P : PR) (h : ∀ D ys k S', MT S' → IntsAre ys fs → MOff S' ((D, listOf ys.toArray k) :: rest) → (∀ q ∈ rest, @Ne Nat q.1 D) → P (.ref D) (S' ++ (D, listOf ys.toArray k) :: rest)) (r : Value) (n : List (Addr × Obj)) (e : SearchR fs rest r n) : P r n := by
  obtain ⟨D, ys, k, S', rfl, a, b, rfl, c, d⟩ := e
  exact h D ys k S' a b c d
local macro_rules | `(tactic| k_mem) => `(tactic| ((repeat (refine List.mem_cons_of_mem _ ?_)); refine List.mem_append_right _ ?_; (repeat (refine List.mem_cons_of_mem _ ?_)); with_reducible assumption))
set_option maxRecDepth 100000 in
set_option maxHeartbeats 8000000 in
theorem search_ct {S rest : List (Addr × Obj)} {tv : Value} {a : Addr} {rvs : List Value} {k : Nat} {rs : List (Int × Int × List Str)} {t : Mine.T} (hS : MT S) (hmo : MOff S rest) (hm : (a, listOf rvs.toArray k) ∈ rest) (hrs : RowsIn w rest rvs rs) (hsz : rvs.length ≤ 100) (ht : DatIn rest tv t.dat) (hok : t.ok) (hdep : t.depth ≤ 2) :
    Ct w p loose mean mg mb 807 [tv, .ref a] (S ++ rest) 14 (SearchR (foundIn (rowP t (ctxOf rs)) rs) rest) := by
  have hrs' := hrs.mono (sub_app (ex := S))
  have hm' := sub_app (ex := S) _ hm
  k_data
  refine' ct_of_bodyC (binds := [(Str.ofString "tree", tv), (Str.ofString "rows", .ref a)]) ?o9 ?cd9 ?b9 ?l9 ?nd9 ?h9 ?c29 ?c39 ?c49
  case o9 => k_is
  case cd9 => k_is
  case b9 => rfl
  case l9 => rfl
  case nd9 => decide +kernel
  case c29 => rfl
  case c39 => rfl
  case c49 => rfl
  intro dp un gd outer A₀ base g L s cells B F X N T Y hlt hd hu
  k_cells Y
  have C := codeHd_of_K (c := 794) (P := 790) X (by kernel_rfl)
  simp only [List.cons_append, List.nil_append] at N
  have e1 : ∀ q ∈ S ++ rest, q.1 ≠ L + 1 := fun q hq => by have := hlt q hq; exact Nat.ne_of_lt (Nat.lt_succ_of_lt this)
  have e2 : ∀ q ∈ S ++ rest, q.1 ≠ L + 1 + 1 := fun q hq => by have := hlt q hq; exact Nat.ne_of_lt (Nat.lt_succ_of_lt (Nat.lt_succ_of_lt this))
  repeat ((fail_if_success (with_reducible show wpAny _ _ (call (Value.ref 802) _) _ _ _)); (first | walk1 | (dsimp only; walk1)))
  refine' ct_useU u_ctx (ctx_ct ?a7 ?r7) ?_
  case a7 => k_mem
  case r7 => (refine RowsIn.mono ?_ (by assumption); k_sub)
  intro _ _ _ _ _ _ _ hO9 _
  try k_lt hO9
  try dsimp only
  k_steps
  rename_i oo o2 ddo dd2 h9 tk9 D9 u1 u2 k9 h2 oc F2 N2 dc
  have dt : o2.data = .cell (some tv) := dd2
  clear ddo dd2
  generalize hX0 : ((D9, tupO [Value.int (ctxOf rs).fst u1, Value.int (ctxOf rs).snd u2] k9) :: (L + 1 + 1, oc) :: (L + 1, o2) :: rest : List (Addr × Obj)) = X0
  have m1 : (D9, tupO [Value.int (ctxOf rs).fst u1, Value.int (ctxOf rs).snd u2] k9) ∈ X0 := hX0 ▸ List.mem_cons_self ..
  have m2 : (L + 1 + 1, oc) ∈ X0 := hX0 ▸ List.mem_cons_of_mem _ (List.mem_cons_self ..)
  have m3 : (L + 1, o2) ∈ X0 := hX0 ▸ List.mem_cons_of_mem _ (List.mem_cons_of_mem _ (List.mem_cons_self ..))
  have mr : ∀ q ∈ rest, q ∈ X0 := fun q hq => hX0 ▸ List.mem_cons_of_mem _ (List.mem_cons_of_mem _ (List.mem_cons_of_mem _ hq))
  have hmoX : MOff S X0 := by
    subst hX0
    intro q hq r hr
    have hql : @LT.lt Nat _ q.1 L := hlt q (List.mem_append_left _ hq)
    have hqD : @LT.lt Nat _ q.1 D9 := allLt_mem hO9.2.2 q (List.mem_append_left _ hq)
    rcases List.mem_cons.mp hr with rfl | hr
    · exact Nat.ne_of_lt hqD
    rcases List.mem_cons.mp hr with rfl | hr
    · exact Nat.ne_of_lt (Nat.lt_succ_of_lt (Nat.lt_succ_of_lt hql))
    rcases List.mem_cons.mp hr with rfl | hr
    · exact Nat.ne_of_lt (Nat.lt_succ_of_lt hql)
    · exact hmo q hq r hr
  have N3 : News g L h2 (S ++ X0) := drop_ N2 (by subst hX0; exact mem_perm)
  have htX := ht.mono mr
  clear N2 hX0 hmo hO9 e1 e2
  refine' src_list (BN (Str.ofString "seen")) (JV fun us ys n => ∃ S1 rs1 rs2, MT S1 ∧ MOff S1 X0 ∧ n = S1 ++ X0 ∧ rs = rs1 ++ rs2 ∧ RowsIn w rest us rs2 ∧ IntsAre ys (foundIn (rowP t (ctxOf rs)) rs1))
    rfl F2 N3 (sub_app _ (mr _ hm)) (Nat.le_trans hsz (by decide)) (takes_name rfl (by decide +kernel)) ⟨rvs, rfl, S, [], rs, hS, hmoX, rfl, rfl, hrs, .nil⟩ ?_ ?_ ?_
  · rintro r ys n ⟨us, _, S1, rs1, rs2, _, _, rfl, _⟩
    exact sub_app _ (mr _ hm)
  · intro g0
    refine turns_val fun v r ys n I oI C oC Dd m₂ h tk E' hD hB F hI hoC N hne hoff => ?_
    obtain ⟨S1, rs1, rs2, hT1, hM1, rfl, hrs0, hus, hys⟩ := hD
    have hx := hB v rfl
    match rs2, hus with
    | r0 :: rs2, hus =>
    have hM2 : MOff S1 ((I, oI) :: (C, oC) :: (Dd, LCg.lst ys) :: X0) := by
      intro q hq r hr
      have := hoff q (List.mem_append_left _ hq)
      rcases List.mem_cons.mp hr with rfl | hr
      · exact this.1
      rcases List.mem_cons.mp hr with rfl | hr
      · exact this.2.1
      rcases List.mem_cons.mp hr with rfl | hr
      · exact this.2.2
      · exact hM1 q hq r hr
    have hperm : ∀ q ∈ S1 ++ ((I, oI) :: (C, oC) :: (Dd, LCg.lst ys) :: X0), q ∈ (I, oI) :: (C, oC) :: (Dd, LCg.lst ys) :: (S1 ++ X0) := mem_perm
    have hXall : ∀ q ∈ X0, q ∈ (I, oI) :: (C, oC) :: (Dd, LCg.lst ys) :: X0 := fun q hq => List.mem_cons_of_mem _ (List.mem_cons_of_mem _ (List.mem_cons_of_mem _ hq))
    have hRall : ∀ q ∈ rest, q ∈ (I, oI) :: (C, oC) :: (Dd, LCg.lst ys) :: X0 := fun q hq => hXall q (mr q hq)
    have m1' := hXall _ m1
    have n2 := sub_app (ex := S1) _ m2
    have n3 := sub_app (ex := S1) _ m3
    have hrow := hus.1
    obtain ⟨lx, ⟨sx, sd, s0, s1, s2, s3, k2, rfl, q1, q2⟩, hL⟩ := hus.1
    have q1 := mr _ q1
    have q2 := mr _ q2
    simp only [Tst]
    repeat ((fail_if_success (with_reducible show wpAny _ _ (call (Value.ref 795) _) _ _ _)); (first | walk1 | (dsimp only; walk1)))
    refine' ct_useU u_match (matches_ct ?mt7 ?mo7 ?t7 ?ok7 ?dep7 ?row7 ?c7) ?_ (hs := ?s)
    case mo7 => assumption
    case mt7 => assumption
    case t7 => (refine DatIn.mono ?_ (by assumption); assumption)
    case ok7 => assumption
    case dep7 => assumption
    case row7 => (refine RowIn.mono (by assumption) (by assumption))
    case c7 => assumption
    case s => assumption
    intro _ _ _ _ _ _ _
    try dsimp only
    k_steps
    · rename_i h9 tk9 F9 S9 hT9 hM9 N9 hb9
      exact cend_tab F9 N9 hoC hM9 (fun p hp => hoff p (List.mem_append_right _ hp)) ⟨S9, rs1 ++ [r0], rs2, hT9, fun q hq r hr => hM9 q hq r (hXall r hr), rfl, by simp [hrs0], hus.2, by
        rw [foundIn, List.filter_append, List.map_append, List.filter_cons_of_pos (by exact hb9)]
        exact hys.append (.cons _ _ .nil)⟩
    · rename_i h9 tk9 F9 S9 hT9 hM9 N9 hb9
      exact cend_tab F9 N9 hoC hM9 (fun p hp => hoff p (List.mem_append_right _ hp)) ⟨S9, rs1 ++ [r0], rs2, hT9, fun q hq r hr => hM9 q hq r (hXall r hr), rfl, by simp [hrs0], hus.2, by
        rw [foundIn, List.filter_append, List.filter_cons_of_neg (by rw [show rowP t (ctxOf rs) r0 = false from hb9]; decide), List.filter_nil, List.append_nil]
        exact hys⟩
  · intro g0 ys n hJ D h tk F N hoff
    obtain ⟨us, e, S1, rs1, rs2, hT1, hM1, rfl, hrs0, hus, hys⟩ := hJ
    have := map_val_nil e
    subst this
    match rs2, hus with
    | [], _ =>
    rw [List.append_nil] at hrs0
    subst hrs0
    k_steps
    all_goals (show Back _ _ _ _ _ _; refine Back.intro F N (news' := S1 ++ (D, listOf ys.toArray ys.length) :: rest) (fun q hq => ?_) ⟨D, ys, ys.length, S1, rfl, hT1, hys, rfl, fun q hq r hr => ?_, fun q hq => hoff q (List.mem_append_right _ (mr q hq))⟩)
    · rcases List.mem_append.mp hq with hq | hq
      · exact List.mem_cons_of_mem _ (List.mem_append_left _ hq)
      · rcases List.mem_cons.mp hq with rfl | hq
        · exact List.mem_cons_self ..
        · exact List.mem_cons_of_mem _ (List.mem_append_right _ (mr q hq))
    · rcases List.mem_cons.mp hr with rfl | hr
      · exact hoff q (List.mem_append_left _ hq)
      · exact hM1 q hq r (mr r hr)

end
end
section
local macro_rules | `(tactic| walk_at "exec For Name Name cons nil") => `(tactic| ((rename Fr _ _ _ _ => lF'); (with_unfolding_all refine' For_turns lF' ?_)))
local macro_rules | `(tactic| walk_at "exec For Name Call cons nil") => `(tactic| ((rename Fr _ _ _ _ => lF'); (with_unfolding_all refine' For_turns lF' ?_)))
local macro_rules | `(tactic| walk_at "exec For Tuple Name cons nil") => `(tactic| ((rename Fr _ _ _ _ => lF'); (with_unfolding_all refine' For_turns lF' ?_)))

section
variable {w : World} {p : Program} {loose : List Str} {mean : ExcName → Option Value} {mg mb : Str → Option Value}
inductive RunInv (lo : Addr) (news : List (Addr × Obj)) (ns : List Int) (us : List Value) (n : List (Addr × Obj)) : Prop
  | mk (out : List (Int × Int)) (ovs : List Value) (k : Nat) (ex : List (Addr × Obj)) (ns2 : List Int) (z0 : IntsAre us ns2) (z1 : n = (lo, listOf ovs.toArray k) :: (ex ++ news)) (z2 : Apart ex news) (z3 : (∀ q ∈ ex ++ news, @Ne Nat q.1 lo)) (z4 : DatAll ex ovs (out.map pairD)) (z5 : runsOf ns = ns2.foldl stepR out) (z6 : ovs.length + us.length ≤ 50) : RunInv lo news ns us n
theorem run_end {g : Heap} {L I lo a D1 : Addr} {o : Obj} {s₁ : Shared} {h' : Heap} {tk : Nat} {m' : Str → Option Value} {all news ex : List (Addr × Obj)} {ovs' nvs r : List Value} {k k2 : Nat} {x y : Int} {t1 t2 : Tok} {ns ns3 : List Int} {out2 : List (Int × Int)} {kl : List (Str × Value)}
    (F : Fr g L h' m') (N : News g L h' all) (hI : (I, o) ∈ all) (hlo : (lo, listOf ovs'.toArray k2) ∈ all) (hD1 : (D1, tupO [.int x t1, .int y t2] 0) ∈ all) (hex : ∀ q ∈ ex ++ news, q ∈ all) (l1 : @LT.lt Nat _ I D1 ∧ @LT.lt Nat _ lo D1 ∧ AllLt D1 (ex ++ news))
    (hnI : @Ne Nat lo I) (hoff : ∀ q ∈ ex ++ news, @Ne Nat q.1 I) (hap : Apart ex news) (hof : ∀ q ∈ ex ++ news, @Ne Nat q.1 lo) (hd : DatAll ((D1, tupO [.int x t1, .int y t2] 0) :: ex) ovs' (out2.map pairD)) (hr : runsOf ns = ns3.foldl stepR out2) (hln : ovs'.length + r.length ≤ 50)
    (hi3 : IntsAre r ns3) (hm : (a, listOf nvs.toArray k) ∈ news) (km : Keep kl m') :
    UnrEndW g L s₁ [(I, o)] (fun m' n' => SubL [(a, listOf nvs.toArray k)] n' ∧ Keep kl m' ∧ RunInv lo news ns r n' ∧ ∀ q ∈ n', @Ne Nat q.1 I) { s₁ with heap := h', toks := tk } := by
  refine turn_inv F N hI (news := (lo, listOf ovs'.toArray k2) :: (((D1, tupO [.int x t1, .int y t2] 0) :: ex) ++ news)) (fun q hq => ?_) (fun q hq => ?_) (List.mem_cons_of_mem _ (sub_app _ hm)) km ⟨out2, ovs', k2, (D1, tupO [.int x t1, .int y t2] 0) :: ex, ns3, hi3, rfl, Apart.cons (fun r hr => Nat.ne_of_gt (allLt_mem l1.2.2 r (sub_app r hr))) hap, fun q hq => ?_, hd, hr, hln⟩
  · rcases List.mem_cons.mp hq with rfl | hq
    · exact hlo
    rcases List.mem_cons.mp hq with rfl | hq
    · exact hD1
    · exact hex q hq
  · rcases List.mem_cons.mp hq with rfl | hq
    · exact hnI
    rcases List.mem_cons.mp hq with rfl | hq
    · exact Nat.ne_of_gt l1.1
    · exact hoff q hq
  · rcases List.mem_cons.mp hq with rfl | hq
    · exact Nat.ne_of_gt l1.2.1
    · exact hof q hq
theorem dat_pairs_snoc {n : List (Addr × Obj)} {q : Int × Int} : ∀ {out : List (Int × Int)} {ovs : List Value}, DatAll n ovs ((out ++ [q]).map pairD) → ∃ vs v, ovs = vs ++ [v] ∧ DatAll n vs (out.map pairD) ∧ DatIn n v (pairD q)
  | [], ovs, h => by
    obtain ⟨v, r, rfl, hv, hr⟩ := dat_cons h
    obtain rfl := dat_nil hr
    exact ⟨[], v, rfl, .nil, hv⟩
  | x :: out, ovs, h => by
    obtain ⟨v, r, rfl, hv, hr⟩ := dat_cons h
    obtain ⟨vs, u, rfl, h1, h2⟩ := dat_pairs_snoc hr
    exact ⟨v :: vs, u, rfl, .cons hv h1, h2⟩
theorem dat_app {n : List (Addr × Obj)} : ∀ {vs us : List Value} {ds es : List Dat}, DatAll n vs ds → DatAll n us es → DatAll n (vs ++ us) (ds ++ es)
  | _, _, _, _, .nil, h => h
  | _, _, _, _, .cons a r, h => .cons a (dat_app r h)
theorem pair_in {n : List (Addr × Obj)} {D : Addr} {x y : Int} {t1 t2 : Tok} (h : (D, tupO [.int x t1, .int y t2] 0) ∈ n) : DatIn n (.ref D) (pairD (x, y)) := .tuple h (.cons (.int x t1) (.cons (.int y t2) .nil))
local macro_rules | `(tactic| walk_at "setItem ref int ref") => `(tactic| ((with_reducible show wpAny _ _ (setItem (Value.ref _) (Value.int _ _) (Value.ref _)) _ _ _); k_dflt (refine' set_last ?F ?N ?U ?_; (case F => k_asm); (case N => k_asm); (case U => k_upd)); intro h9 F9 N9))
local macro_rules | `(tactic| walk_at "call builtin:len") => `(tactic| ((with_reducible show wpAny _ _ (call (Value.builtin _) [Value.ref _]) _ _ _); k_dflt (refine' len_list ?N ?m ?l ?_; (case N => k_asm); (case m => k_mem); (case l => (simp only [List.length_append, List.length_cons, List.length_nil] at *; omega))); intro t9 tk9))
local macro_rules | `(tactic| walk_at "subscriptTail Name UnaryOp ref int") => `(tactic| ((with_reducible show wpAny _ _ (subscriptTail _ _ (Value.ref _) (Value.int _ _)) _ _ _); k_dflt (refine' sub_last ?N ?m ?_; (case N => k_asm); (case m => k_mem))))
local macro_rules | `(tactic| walk_at "call type:tuple") => `(tactic| ((with_reducible show wpAny _ _ (call (Value.type _) [Value.ref _]) _ _ _); k_dflt (refine' tup_of ?F ?N ?m ?l ?_; (case F => k_asm); (case N => k_asm); (case m => k_mem); (case l => (simp only [List.length_append, List.length_cons, List.length_nil] at *; omega))); intro D9 h9 F9 N9 hO9))
set_option maxRecDepth 100000 in
set_option maxHeartbeats 8000000 in
theorem ranges_ct {news : List (Addr × Obj)} {a : Addr} {nvs : List Value} {ns : List Int} {k : Nat} (hm : (a, listOf nvs.toArray k) ∈ news) (hi : IntsAre nvs ns) (hsz : nvs.length ≤ 50) :
    Ct w p loose mean mg mb 602 [.ref a] news 2 (fun r n => ∃ (T : Addr) (tvs : List Value) (k : Nat) (ex : List (Addr × Obj)), r = .ref T ∧ n = (T, tupO tvs k) :: (ex ++ news) ∧ Apart ((T, tupO tvs k) :: ex) news ∧ DatAll ex tvs ((runsOf ns).map pairD)) := by
  k_data
  refine' ct_of_body (binds := [(Str.ofString "numbers", .ref a)]) ?o ?cd ?b ?l ?h ?c2 ?c3 ?c4 ?c5
  case o => k_is
  case cd => k_is
  case b => rfl
  case l => exact locs rfl
  case c2 => rfl
  case c3 => rfl
  case c4 => rfl
  case c5 => decide
  intro dp un gd outer A₀ base g L s B F X N T hd hu
  simp only [List.reverse_cons, List.reverse_nil, List.nil_append, List.cons_append, mOf] at F
  k_fold
  k_steps
  rename_i lo h1 hlo h2 F N
  refine' list_inv (l := [(Str.ofString "out", .ref lo)]) (D := RunInv lo news ns) rfl F N (List.mem_cons_of_mem _ hm) ⟨rfl, trivial⟩ ⟨[], [], 0, [], ns, hi, rfl, Apart.nil, fun q hq => Nat.ne_of_lt (hlo q hq), .nil, rfl, by simpa using hsz⟩ ?_ ?_ ?_
  · rintro r n ⟨out, ovs, k, ex, ns2, _, rfl, _⟩
    exact List.mem_cons_of_mem _ (sub_app _ hm)
  · clear F N
    intro m n h tk hD F N
    obtain ⟨out, ovs, k', ex, ns2, hi2, rfl, hap, hof, hd, hr, hln⟩ := hD
    cases hi2
    simp only [mOn] at F
    change Fr g L _ _ at F
    change News g L _ _ at N
    dsimp only
    k_steps
    rename_i D9 h9 F9 N9 hO9
    show Back _ _ _ _ _ _
    refine Back.intro F9 N9 (news' := (D9, tupO ovs 0) :: (ex ++ news)) (fun q hq => ?_) ⟨D9, ovs, 0, ex, rfl, rfl, Apart.cons (fun r hr => Nat.ne_of_gt (hO9 r (List.mem_cons_of_mem _ (sub_app r hr)))) hap, by rw [hr]; exact hd⟩
    rcases List.mem_cons.mp hq with rfl | hq
    · exact List.mem_cons_self ..
    · exact List.mem_cons_of_mem _ (List.mem_cons_of_mem _ hq)
  · clear F N
    intro I v r m n h tk o hoff hD ho F N
    obtain ⟨out, ovs, k', ex, ns2, hi2, rfl, hap, hof, hd, hr, hln⟩ := hD
    cases hi2 with | @cons num tn _ ns3 hi3 =>
    simp only [mOn] at F
    change Fr g L _ _ at F
    change News g L _ _ at N
    have hnI : @Ne Nat lo I := hoff _ (List.mem_cons_self ..)
    rcases List.eq_nil_or_concat out with rfl | ⟨out', q, rfl⟩
    · obtain rfl := dat_nil hd
      k_steps
      rename_i hB h1 _ _ _ _ D1 h2 l1 h3 F1 N1
      exact run_end F1 N1 (List.mem_cons_of_mem _ (List.mem_cons_self ..)) (ovs' := [.ref D1]) (k2 := k' + 1) (List.mem_cons_of_mem _ (List.mem_cons_of_mem _ (List.mem_cons_self ..))) (List.mem_cons_self ..) (fun q hq => List.mem_cons_of_mem _ (List.mem_cons_of_mem _ (List.mem_cons_of_mem _ hq))) l1 hnI (fun q hq => hoff q (List.mem_cons_of_mem _ hq)) hap hof
        (out2 := [(num, num)]) (.cons (pair_in (List.mem_cons_self ..)) .nil) hr (by simp only [List.length_cons, List.length_nil] at hln ⊢; omega) hi3 hm ⟨rfl, trivial⟩
    · rw [List.concat_eq_append] at hd hr
      obtain ⟨vs, v, rfl, hd1, hv⟩ := dat_pairs_snoc hd
      obtain ⟨pa, tp1, tp2, pk, rfl, hpm⟩ := dat_pair hv
      have hpm2 : (pa, tupO [.int q.1 tp1, .int q.2 tp2] pk) ∈ ex ++ news := List.mem_append_left _ hpm
      have hofa : ∀ q ∈ ex ++ news, q.1 ≠ lo := hof
      k_steps
      · rename_i hle tkx D1 h2 Fx Nx l1 h9 F9 N9
        exact run_end F9 N9 (List.mem_cons_of_mem _ (List.mem_cons_self ..)) (ovs' := vs ++ [.ref D1]) (k2 := k') (List.mem_cons_of_mem _ (List.mem_cons_of_mem _ (List.mem_cons_self ..))) (List.mem_cons_self ..) (fun q hq => List.mem_cons_of_mem _ (List.mem_cons_of_mem _ (List.mem_cons_of_mem _ hq))) l1 hnI (fun q hq => hoff q (List.mem_cons_of_mem _ hq)) hap hof
          (out2 := out' ++ [(q.1, num)]) (by rw [List.map_append]; exact dat_app (hd1.mono (fun q hq => List.mem_cons_of_mem _ hq)) (.cons (pair_in (List.mem_cons_self ..)) .nil)) (by rw [hr, List.foldl_cons, stepR_in hle]) (by simp only [List.length_append, List.length_cons, List.length_nil] at hln ⊢; omega) hi3 hm ⟨rfl, trivial⟩
      · rename_i hgt tkx D1 h2 l1 h9 F9 N9
        simp only [List.push_toArray] at N9
        exact run_end F9 N9 (List.mem_cons_of_mem _ (List.mem_cons_self ..)) (ovs' := vs ++ [.ref pa] ++ [.ref D1]) (k2 := k' + 1) (List.mem_cons_of_mem _ (List.mem_cons_of_mem _ (List.mem_cons_self ..))) (List.mem_cons_self ..) (fun q hq => List.mem_cons_of_mem _ (List.mem_cons_of_mem _ (List.mem_cons_of_mem _ hq))) l1 hnI (fun q hq => hoff q (List.mem_cons_of_mem _ hq)) hap hof
          (out2 := out' ++ [q] ++ [(num, num)]) (by rw [List.map_append]; exact dat_app (hd.mono (fun q hq => List.mem_cons_of_mem _ hq)) (.cons (pair_in (List.mem_cons_self ..)) .nil)) (by rw [hr, List.foldl_cons, stepR_out hgt]) (by simp only [List.length_append, List.length_cons, List.length_nil] at hln ⊢; omega) hi3 hm ⟨rfl, trivial⟩
      · rename_i hz _ _ _ _ _ _ _
        exact absurd (Int.ofNat_lt.mpr (show 0 < (vs ++ [Value.ref pa]).length by rw [List.length_append]; simp)) hz

end
section
local macro_rules | `(tactic| walk_at "eval ListComp") => `(tactic| ((rename Fr _ _ _ _ => lF'); (first | ((with_reducible show wpAny _ _ (eval (PySem.Expr.ListComp _ [⟨_, _, [], 0⟩] _ _) _) _ _ _); k_dflt (refine' ListComp_G (ct := none) lF' ?c1 ?c2 ?c3 ?c4 ?_)) | ((with_reducible show wpAny _ _ (eval (PySem.Expr.ListComp _ [⟨_, _, [_], 0⟩] _ _) _) _ _ _); k_dflt (refine' ListComp_G (ct := some _) lF' ?c1 ?c2 ?c3 ?c4 ?_))); (case c1 => k_dflt (exact rfl)); (case c2 => k_dflt decide); (case c3 => k_dflt (exact rfl)); (case c4 => k_dflt decide)))
local macro_rules | `(tactic| walk_at "exec Assign cons ListComp") => `(tactic| ((rename Fr _ _ _ _ => lF'); (first | ((with_reducible show wpAny _ _ (exec (PySem.Stmt.Assign _ (PySem.Expr.ListComp _ [⟨_, _, [], 0⟩] _ _) _) _) _ _ _); k_dflt (refine' Assign_ListComp_G (ct := none) lF' ?c0 ?cs ?c1 ?c2 ?c3 ?c4 ?c5 ?c6 ?_)) | ((with_reducible show wpAny _ _ (exec (PySem.Stmt.Assign _ (PySem.Expr.ListComp _ [⟨_, _, [_], 0⟩] _ _) _) _) _ _ _); k_dflt (refine' Assign_ListComp_G (ct := some _) lF' ?c0 ?cs ?c1 ?c2 ?c3 ?c4 ?c5 ?c6 ?_))); (case c0 => k_dflt (exact rfl)); (case cs => k_dflt (exact rfl)); (case c1 => k_dflt (exact rfl)); (case c2 => k_dflt decide); (case c3 => k_dflt (exact rfl)); (case c4 => k_dflt decide); (case c5 => k_dflt (exact rfl)); (case c6 => k_dflt (exact rfl))))

section
variable {w : World} {p : Program} {loose : List Str} {mean : ExcName → Option Value} {mg mb : Str → Option Value}
theorem lhas_cons {q : Int × Int} {qs : List (Int × Int)} {n top : Int} : lawHas (q :: qs) n top = (lawPair q n top || lawHas qs n top) := rfl
set_option maxRecDepth 100000 in
set_option maxHeartbeats 8000000 in
theorem lhas_ct {news : List (Addr × Obj)} {a : Addr} {vs : List Value} {k : Nat} {ps : List (Int × Int)} {n top : Int} {t1 t2 : Tok} (hm : (a, tupO vs k) ∈ news) (hp : DatAll news vs (ps.map pairD)) :
    Ct w p loose mean mg mb 852 [.ref a, .int n t1, .int top t2] news 2 (fun r news' => r = .bool (lawHas ps n top) ∧ news' = news) := by
  k_data
  refine' ct_of_bodyC (binds := [(Str.ofString "some", .ref a), (Str.ofString "number", .int n t1), (Str.ofString "top", .int top t2)]) ?o9 ?cd9 ?b9 ?l9 ?nd9 ?h9 ?c29 ?c39 ?c49
  case o9 => k_is
  case cd9 => k_is
  case b9 => rfl
  case l9 => rfl
  case nd9 => decide +kernel
  case c29 => rfl
  case c39 => rfl
  case c49 => rfl
  intro dp un gd outer A₀ base g L s cells B F X N T Y hlt hd hu
  k_cells Y
  simp only [List.cons_append, List.nil_append] at N
  k_steps
  rename_i F oc d1
  have dc : oc.data = .cell (some (.int top t2)) := d1
  clear d1
  refine' tup_keep (l := [(Str.ofString "number", .int n t1)]) (D := fun us => ∃ qs : List (Int × Int), DatAll news us (qs.map pairD) ∧ lawHas ps n top = lawHas qs n top) rfl F N (List.mem_cons_of_mem _ hm) ⟨rfl, trivial⟩ ⟨ps, hp, rfl⟩ ?_ ?_
  · clear F N
    intro m h tk hD F N
    obtain ⟨qs, hq, e⟩ := hD
    have : qs = [] := by cases qs with | nil => rfl | cons q qs => cases hq
    subst this
    simp only [mOn] at F
    change Fr g L _ _ at F
    change News g L _ _ at N
    dsimp only
    k_steps
    all_goals (try dsimp only)
    exact Back.intro (by k_asm) (by k_asm) (by k_sub) ⟨by rw [e]; rfl, rfl⟩
  · clear F N
    intro I v r m h tk o hI hD ho F N
    obtain ⟨qs, hq, e⟩ := hD
    simp only [mOn] at F
    change Fr g L _ _ at F
    change News g L _ _ at N
    cases qs with
    | nil => cases hq
    | cons q qs =>
    obtain ⟨v', r', e', hv, hr⟩ := dat_cons hq
    obtain ⟨rfl, rfl⟩ := List.cons.inj e'
    rw [lhas_cons] at e
    obtain ⟨pa, t3, t4, pk, rfl, hpm⟩ := dat_pair hv
    have hcI : @LT.lt Nat _ (L + 1) I := hI (L + 1, oc) (List.mem_cons_self ..)
    k_steps
    rename_i h2 h3 h4 D2 h5 F2 N2 l2
    refine' src_tup (vs := [.int q.1 t3, .int q.2 t4]) (k := 0) (BN (Str.ofString "end")) (JV fun us ys n' => n' = (D2, tupO [.int q.1 t3, .int q.2 t4] 0) :: (I, o) :: (L + 1, oc) :: news ∧ ∃ dn rs : List Int, [q.1, q.2] = dn ++ rs ∧ IntsAre us rs ∧ IntsAre ys (dn.map fun x => endL x top))
      rfl F2 N2 (List.mem_cons_self ..) (by show 2 ≤ sizeLine; decide) (takes_name rfl (by decide +kernel)) ⟨[.int q.1 t3, .int q.2 t4], rfl, rfl, [], [q.1, q.2], rfl, .cons _ _ (.cons _ _ .nil), .nil⟩ ?_ ?_ ?_
    · rintro r ys n' ⟨us, _, rfl, _⟩
      exact List.mem_cons_self ..
    · intro g0
      refine turns_val fun v r2 ys n' I2 oI C oC Dd m₂ h6 tk6 E' hD hB F hI2 hoC N hne hoff => ?_
      obtain ⟨rfl, dn, rs, hdr, hus, hys⟩ := hD
      have hx := hB v rfl
      cases hus with | @cons x tx _ rs' hus' =>
      have hcm : (L + 1, oc) ∈ (D2, tupO [.int q.1 t3, .int q.2 t4] 0) :: (I, o) :: (L + 1, oc) :: news := List.mem_cons_of_mem _ (List.mem_cons_of_mem _ (List.mem_cons_self ..))
      simp only [Tst, if_true]
      k_steps
      all_goals (refine cend_new (l := []) (by k_asm) (by k_asm) hoC (fun _ h => nomatch h) hoff ⟨rfl, dn ++ [x], rs', by simp [hdr], hus', ?_⟩)
      all_goals (rw [List.map_append]; refine hys.append ?_; show IntsAre _ [endL x top]; unfold endL)
      · rw [if_pos (by assumption)]; exact .cons _ _ .nil
      · rw [if_neg (by assumption)]; exact .cons _ _ .nil
    · intro g0 ys n' hJ D h6 tk6 F N hoff
      obtain ⟨us, e3, rfl, dn, rs, hdr, hus, hys⟩ := hJ
      have := map_val_nil e3
      subst this
      cases hus
      rw [List.append_nil] at hdr
      subst hdr
      cases hys with | @cons _ u1 _ _ hys =>
      cases hys with | @cons _ u2 _ _ hys =>
      cases hys
      change Fr g L _ _ at F
      change News g L _ _ at N
      k_steps
      all_goals (try dsimp only)
      all_goals first
        | exact Back.intro (by k_asm) (by k_asm) (by k_sub) ⟨by rw [e, show lawPair q n top = true by unfold lawPair; simp only [Bool.and_eq_true, decide_eq_true_eq]; omega]; rfl, rfl⟩
        | exact turn_fix (by k_asm) (by k_asm) (by k_mem) (by k_sub) hI (by k_sub) ⟨rfl, trivial⟩ ⟨qs, hr, by rw [e, show lawPair q n top = false by (rw [Bool.eq_false_iff]; intro hh; unfold lawPair at hh; simp only [Bool.and_eq_true, decide_eq_true_eq] at hh; omega), Bool.false_or]⟩

end
end
end
section
variable {w : World} {p : Program} {loose : List Str} {mean : ExcName → Option Value} {mg mb : Str → Option Value}
set_option maxRecDepth 100000 in
set_option maxHeartbeats 8000000 in
theorem met_all {num : Int} {t1 : Tok} {lv : Value} {cx : Addr} {l : Int × Int × List Str} {g1 g2 : Int} {bs0 : List (Addr × Obj)} : MetAt w p loose mean mg mb num t1 lv cx l g1 g2 bs0 .all 1 := by
  intro news tv hb ht
  obtain ⟨x, v, n, rfl, hm, hv⟩ := dat_one ht
  obtain ⟨u1, rfl⟩ := dat_str hv
  k_data
  refine' ct_of_bodyC (binds := [(Str.ofString "tree", .ref x), (Str.ofString "number", .int num t1), (Str.ofString "letter", lv), (Str.ofString "tops", .ref cx)]) ?o9 ?cd9 ?b9 ?l9 ?nd9 ?h9 ?c29 ?c39 ?c49
  case o9 => k_is
  case cd9 => k_is
  case b9 => rfl
  case l9 => rfl
  case nd9 => decide +kernel
  case c29 => rfl
  case c39 => rfl
  case c49 => rfl
  intro dp un gd outer A₀ base g L s cells B F X N T Y hlt hd hu
  k_cells Y
  simp only [List.cons_append, List.nil_append] at N
  k_steps
  all_goals exact Back.intro (by k_asm) (by k_asm) (by k_sub) ⟨rfl, rfl⟩

end
section
variable {w : World} {p : Program} {loose : List Str} {mean : ExcName → Option Value} {mg mb : Str → Option Value}

local macro_rules | `(tactic| walk_at "call ref") => `(tactic| ((with_reducible show wpAny _ _ (call (Value.ref 857) _) _ _ _); refine' ct_useU u_eq (MetAt.use ?i ?b ?d) ?_; (case d => (refine DatIn.mono ?_ (by assumption); k_sub)); (case i => assumption); (case b => (refine sub_trans (by assumption) ?_; k_sub)); (intro h9 tk9 F9  N9); (try dsimp only)))
set_option maxRecDepth 100000 in
set_option maxHeartbeats 8000000 in
theorem met_not {num : Int} {t1 : Tok} {lv : Value} {cx : Addr} {l : Int × Int × List Str} {g1 g2 : Int} {bs0 : List (Addr × Obj)} {a : Mine.T} {k : Nat} (hA : MetAt w p loose mean mg mb num t1 lv cx l g1 g2 bs0 a k) : MetAt w p loose mean mg mb num t1 lv cx l g1 g2 bs0 (.nt a) (k + 1) := by
  intro news tv hb ht
  obtain ⟨x, x1, va, n, rfl, hm, hx1, hva⟩ := dat_two ht
  obtain ⟨u1, rfl⟩ := dat_str hx1
  k_data
  refine' ct_of_bodyC (binds := [(Str.ofString "tree", .ref x), (Str.ofString "number", .int num t1), (Str.ofString "letter", lv), (Str.ofString "tops", .ref cx)]) ?o9 ?cd9 ?b9 ?l9 ?nd9 ?h9 ?c29 ?c39 ?c49
  case o9 => k_is
  case cd9 => k_is
  case b9 => rfl
  case l9 => rfl
  case nd9 => decide +kernel
  case c29 => rfl
  case c39 => rfl
  case c49 => rfl
  intro dp un gd outer A₀ base g L s cells B F X N T Y hlt hd hu
  k_cells Y
  simp only [List.cons_append, List.nil_append] at N
  k_steps
  all_goals (first | exact Back.intro (by k_asm) (by k_asm) (by k_sub) ⟨rfl, rfl⟩ | w_report)

end
section
variable {w : World} {p : Program} {loose : List Str} {mean : ExcName → Option Value} {mg mb : Str → Option Value}
local macro_rules | `(tactic| walk_at "zz") => `(tactic| fail "zz")

local macro_rules | `(tactic| walk_at "call ref") => `(tactic| ((with_reducible show wpAny _ _ (call (Value.ref 852) _) _ _ _); refine' ct_useU u_eq (lhas_ct ?m ?p) ?_; (case m => k_mem); (case p => (refine DatAll.mono ?_ (by assumption); k_sub)); (intro h9 tk9 F9  N9); (try dsimp only)))
set_option maxRecDepth 100000 in
set_option maxHeartbeats 8000000 in
theorem met_seq {num : Int} {t1 : Tok} {lv : Value} {cx : Addr} {l : Int × Int × List Str} {g1 g2 : Int} {u1 u2 : Tok} {kc : Nat} {bs0 : List (Addr × Obj)} {ps : List (Int × Int)} (hc : (cx, tupO [.int g1 u1, .int g2 u2] kc) ∈ bs0) : MetAt w p loose mean mg mb num t1 lv cx l g1 g2 bs0 (.seq ps) 3 := by
  intro news tv hb ht
  obtain ⟨x, x1, va, n, rfl, hm, hx1, hva⟩ := dat_two ht
  obtain ⟨u1, rfl⟩ := dat_str hx1
  obtain ⟨b, vs, k', rfl, hbm, hvs⟩ := dat_tup hva
  have hc' := hb _ hc
  k_data
  refine' ct_of_bodyC (binds := [(Str.ofString "tree", .ref x), (Str.ofString "number", .int num t1), (Str.ofString "letter", lv), (Str.ofString "tops", .ref cx)]) ?o9 ?cd9 ?b9 ?l9 ?nd9 ?h9 ?c29 ?c39 ?c49
  case o9 => k_is
  case cd9 => k_is
  case b9 => rfl
  case l9 => rfl
  case nd9 => decide +kernel
  case c29 => rfl
  case c39 => rfl
  case c49 => rfl
  intro dp un gd outer A₀ base g L s cells B F X N T Y hlt hd hu
  k_cells Y
  simp only [List.cons_append, List.nil_append] at N
  k_steps
  all_goals (first | exact Back.intro (by k_asm) (by k_asm) (by k_sub) ⟨rfl, rfl⟩ | w_report)
set_option maxRecDepth 100000 in
set_option maxHeartbeats 8000000 in
theorem met_uid {num : Int} {t1 : Tok} {lv : Value} {cx : Addr} {l : Int × Int × List Str} {g1 g2 : Int} {u1 u2 : Tok} {kc : Nat} {bs0 : List (Addr × Obj)} {ps : List (Int × Int)} (hl : DatIn bs0 lv (letD l)) (hc : (cx, tupO [.int g1 u1, .int g2 u2] kc) ∈ bs0) : MetAt w p loose mean mg mb num t1 lv cx l g1 g2 bs0 (.uid ps) 3 := by
  intro news tv hb ht
  obtain ⟨x, x1, va, n, rfl, hm, hx1, hva⟩ := dat_two ht
  obtain ⟨u1, rfl⟩ := dat_str hx1
  obtain ⟨b, vs, k', rfl, hbm, hvs⟩ := dat_tup hva
  obtain ⟨la, lt1, lt2, fx, lk, fvs, fk, rfl, hl1, hl2, hl3⟩ := dat_let hl
  have hc' := hb _ hc
  have hl1' := hb _ hl1
  k_data
  refine' ct_of_bodyC (binds := [(Str.ofString "tree", .ref x), (Str.ofString "number", .int num t1), (Str.ofString "letter", .ref la), (Str.ofString "tops", .ref cx)]) ?o9 ?cd9 ?b9 ?l9 ?nd9 ?h9 ?c29 ?c39 ?c49
  case o9 => k_is
  case cd9 => k_is
  case b9 => rfl
  case l9 => rfl
  case nd9 => decide +kernel
  case c29 => rfl
  case c39 => rfl
  case c49 => rfl
  intro dp un gd outer A₀ base g L s cells B F X N T Y hlt hd hu
  k_cells Y
  simp only [List.cons_append, List.nil_append] at N
  k_steps
  all_goals (first | exact Back.intro (by k_asm) (by k_asm) (by k_sub) ⟨rfl, rfl⟩ | w_report)

end
section
local macro_rules | `(tactic| walk_at "eval ListComp") => `(tactic| ((rename Fr _ _ _ _ => lF'); (first | ((with_reducible show wpAny _ _ (eval (PySem.Expr.ListComp _ [⟨_, _, [], 0⟩] _ _) _) _ _ _); k_dflt (refine' ListComp_G (ct := none) lF' ?c1 ?c2 ?c3 ?c4 ?_)) | ((with_reducible show wpAny _ _ (eval (PySem.Expr.ListComp _ [⟨_, _, [_], 0⟩] _ _) _) _ _ _); k_dflt (refine' ListComp_G (ct := some _) lF' ?c1 ?c2 ?c3 ?c4 ?_))); (case c1 => k_dflt (exact rfl)); (case c2 => k_dflt decide); (case c3 => k_dflt (exact rfl)); (case c4 => k_dflt decide)))
local macro_rules | `(tactic| walk_at "exec Assign cons ListComp") => `(tactic| ((rename Fr _ _ _ _ => lF'); (first | ((with_reducible show wpAny _ _ (exec (PySem.Stmt.Assign _ (PySem.Expr.ListComp _ [⟨_, _, [], 0⟩] _ _) _) _) _ _ _); k_dflt (refine' Assign_ListComp_G (ct := none) lF' ?c0 ?cs ?c1 ?c2 ?c3 ?c4 ?c5 ?c6 ?_)) | ((with_reducible show wpAny _ _ (exec (PySem.Stmt.Assign _ (PySem.Expr.ListComp _ [⟨_, _, [_], 0⟩] _ _) _) _) _ _ _); k_dflt (refine' Assign_ListComp_G (ct := some _) lF' ?c0 ?cs ?c1 ?c2 ?c3 ?c4 ?c5 ?c6 ?_))); (case c0 => k_dflt (exact rfl)); (case cs => k_dflt (exact rfl)); (case c1 => k_dflt (exact rfl)); (case c2 => k_dflt decide); (case c3 => k_dflt (exact rfl)); (case c4 => k_dflt decide); (case c5 => k_dflt (exact rfl)); (case c6 => k_dflt (exact rfl))))

section
variable {w : World} {p : Program} {loose : List Str} {mean : ExcName → Option Value} {mg mb : Str → Option Value}
theorem tup_tail {prog : Program} {A : Around} {E : Value → Shared → Prop} {s : Shared} {h₀ : Heap} {L a : Addr} {m : Str → Option Value} {news : List (Addr × Obj)} {v : Value} {r : List Value} {k : Nat} {value slice : Expr} {u : Tok} {Q : Value → Shared → Prop}
    (F : Fr h₀ L s.heap m) (N : News h₀ L s.heap news) (hm : (a, tupO (v :: r) k) ∈ news) (hl : r.length ≤ 1000)
    (h : ∀ D h', Fr h₀ L h' m → News h₀ L h' ((D, tupO r 0) :: news) → (∀ p ∈ news, @LT.lt Nat _ p.1 D) → Q (.ref D) { s with heap := h' })
    (hs : subscripted slice false (.ref a) (.ref s.heap.objs.size) = operate [.ref s.heap.objs.size, .ref a] (getItem (.ref a) (.ref s.heap.objs.size)) := by with_unfolding_all rfl)
    (hg : ∀ r, letTemporaryGo value (.ref a) r = pure () := by intro _; with_unfolding_all rfl) :
    wpAny (model prog w) A (subscriptTail value slice (.ref a) (.ref s.heap.objs.size)) Q E { s with heap := s.heap.push { cls := .type "slice", data := .fields #[.int 1 u, .none, .none] } } := by
  refine slice_tuple_from (a := 1) F N (News.isTup N hm) (Nat.le_refl _) (by simp) (fun h' F' N' => h _ h' F' N' fun p hp => Nat.lt_succ_of_lt (Heap.lt_size (N p hp).1)) hs hg ?_
  rw [List.size_toArray, List.length_cons]
  exact Nat.le_trans (Nat.succ_le_succ hl) (by decide)
local macro_rules | `(tactic| walk_at "subscriptTail Name Slice ref ref") => `(tactic| ((with_reducible show wpAny _ _ (subscriptTail _ (PySem.Expr.Slice _ _ none _) (Value.ref _) (Value.ref _)) _ _ _); k_dflt (refine' tup_tail ?F ?N ?l ?z ?_ ?s ?t; (case F => k_asm); (case N => k_asm); (case l => k_mem); (case z => (simp only [List.length_cons, List.length_nil]; omega)); (case s => with_unfolding_all rfl); (case t => kmk_pure)); intro D9 h9 F9 N9 hO9))
local macro_rules | `(tactic| walk_at "call ref") => `(tactic| ((with_reducible show wpAny _ _ (call (Value.ref 857) _) _ _ _); refine' ct_useU u_eq (MetAt.use ?i ?b ?d) ?_; (case d => (refine DatIn.mono ?_ (by assumption); k_sub)); (case i => assumption); (case b => (refine sub_trans (by assumption) ?_; k_sub)); (intro h9 tk9 F9  N9); (try dsimp only)))
set_option maxRecDepth 100000 in
set_option maxHeartbeats 8000000 in
theorem met_and {num : Int} {t1 : Tok} {lv : Value} {cx : Addr} {l : Int × Int × List Str} {g1 g2 : Int} {bs0 : List (Addr × Obj)} {a b : Mine.T} {k : Nat} (hA : MetAt w p loose mean mg mb num t1 lv cx l g1 g2 bs0 a k) (hB : MetAt w p loose mean mg mb num t1 lv cx l g1 g2 bs0 b k) : MetAt w p loose mean mg mb num t1 lv cx l g1 g2 bs0 (.an a b) (k + 1) := by
  intro news tv hb ht
  obtain ⟨x, x1, va, vb, n, rfl, hm, hx1, hva, hvb⟩ := dat_three ht
  obtain ⟨u1, rfl⟩ := dat_str hx1
  k_data
  refine' ct_of_bodyC (binds := [(Str.ofString "tree", .ref x), (Str.ofString "number", .int num t1), (Str.ofString "letter", lv), (Str.ofString "tops", .ref cx)]) ?o9 ?cd9 ?b9 ?l9 ?nd9 ?h9 ?c29 ?c39 ?c49
  case o9 => k_is
  case cd9 => k_is
  case b9 => rfl
  case l9 => rfl
  case nd9 => decide +kernel
  case c29 => rfl
  case c39 => rfl
  case c49 => rfl
  intro dp un gd outer A₀ base g L s cells B F X N T Y hlt hd hu
  k_cells Y
  simp only [List.cons_append, List.nil_append] at N
  repeat (first | walk1 | (dsimp only; walk1))
  rename_i o1 o2 o3 d1 d2 d3 h1 tk1 D1 h2 F1 N1 l1 D2 h3 F N hO
  have hN1 : o1.data = .cell (some (.ref cx)) := d1
  have hN2 : o2.data = .cell (some lv) := d2
  have hN3 : o3.data = .cell (some (.int num t1)) := d3
  clear d1 d2 d3 N1 F1
  refine' src_tup (vs := [va, vb]) (k := 0) (BN (Str.ofString "part")) (JV fun us ys n' => n' = (D2, tupO [va, vb] 0) :: (L + 1 + 1 + 1, o1) :: (L + 1 + 1, o2) :: (L + 1, o3) :: news ∧ ∃ dn rs : List Mine.T, [a, b] = dn ++ rs ∧ DatAll news us (rs.map Mine.T.dat) ∧ ys = dn.map fun t => .bool (lawT num l.2.1 l.2.2 g1 g2 t))
    rfl F (drop_ N (by k_sub)) (List.mem_cons_self ..) (by show 2 ≤ sizeLine; decide) (takes_name rfl (by decide +kernel)) ⟨[va, vb], rfl, rfl, [], [a, b], rfl, .cons hva (.cons hvb .nil), rfl⟩ ?_ ?_ ?_
  · rintro r ys n' ⟨us, _, rfl, _⟩
    exact List.mem_cons_self ..
  · intro g0
    refine turns_val fun v r2 ys n' I2 oI C oC Dd m₂ h6 tk6 E' hD hB F hI2 hoC N hne hoff => ?_
    obtain ⟨rfl, dn, rs, hdr, hus, hys⟩ := hD
    have hx := hB v rfl
    cases rs with
    | nil => cases hus
    | cons t rs =>
    obtain ⟨v', r', e', hv, hr⟩ := dat_cons hus
    obtain ⟨rfl, rfl⟩ := List.cons.inj e'
    have hM : MetAt w p loose mean mg mb num t1 lv cx l g1 g2 bs0 t k := by
      have : t ∈ [a, b] := by rw [hdr]; simp
      simp only [List.mem_cons, List.not_mem_nil, or_false] at this
      rcases this with rfl | rfl <;> assumption
    simp only [Tst, if_true]
    k_steps
    all_goals (refine cend_new (l := []) (by k_asm) (by k_asm) hoC (fun _ h => nomatch h) hoff ⟨rfl, dn ++ [t], rs, by simp [hdr], hr, by rw [hys, List.map_append]; rfl⟩)
  · intro g0 ys n' hJ D h6 tk6 F N hoff
    obtain ⟨us, e3, rfl, dn, rs, hdr, hus, hys⟩ := hJ
    have := map_val_nil e3
    subst this
    cases rs with
    | cons t rs => cases hus
    | nil =>
    rw [List.append_nil] at hdr
    subst hdr
    subst hys
    change Fr g L _ _ at F
    change News g L _ _ at N
    simp only [List.map_cons, List.map_nil] at N
    k_steps
    all_goals (try dsimp only)
    all_goals (first | exact Back.intro (by k_asm) (by k_asm) (by k_sub) ⟨congrArg Value.bool (by simp [lawT, evalT]), rfl⟩ | (trace_state; w_report))
set_option maxRecDepth 100000 in
set_option maxHeartbeats 8000000 in
theorem met_or {num : Int} {t1 : Tok} {lv : Value} {cx : Addr} {l : Int × Int × List Str} {g1 g2 : Int} {bs0 : List (Addr × Obj)} {a b : Mine.T} {k : Nat} (hA : MetAt w p loose mean mg mb num t1 lv cx l g1 g2 bs0 a k) (hB : MetAt w p loose mean mg mb num t1 lv cx l g1 g2 bs0 b k) : MetAt w p loose mean mg mb num t1 lv cx l g1 g2 bs0 (.or a b) (k + 1) := by
  intro news tv hb ht
  obtain ⟨x, x1, va, vb, n, rfl, hm, hx1, hva, hvb⟩ := dat_three ht
  obtain ⟨u1, rfl⟩ := dat_str hx1
  k_data
  refine' ct_of_bodyC (binds := [(Str.ofString "tree", .ref x), (Str.ofString "number", .int num t1), (Str.ofString "letter", lv), (Str.ofString "tops", .ref cx)]) ?o9 ?cd9 ?b9 ?l9 ?nd9 ?h9 ?c29 ?c39 ?c49
  case o9 => k_is
  case cd9 => k_is
  case b9 => rfl
  case l9 => rfl
  case nd9 => decide +kernel
  case c29 => rfl
  case c39 => rfl
  case c49 => rfl
  intro dp un gd outer A₀ base g L s cells B F X N T Y hlt hd hu
  k_cells Y
  simp only [List.cons_append, List.nil_append] at N
  repeat (first | walk1 | (dsimp only; walk1))
  rename_i o1 o2 o3 d1 d2 d3 h1 tk1 D1 h2 F1 N1 l1 D2 h3 F N hO
  have hN1 : o1.data = .cell (some (.ref cx)) := d1
  have hN2 : o2.data = .cell (some lv) := d2
  have hN3 : o3.data = .cell (some (.int num t1)) := d3
  clear d1 d2 d3 N1 F1
  refine' src_tup (vs := [va, vb]) (k := 0) (BN (Str.ofString "part")) (JV fun us ys n' => n' = (D2, tupO [va, vb] 0) :: (L + 1 + 1 + 1, o1) :: (L + 1 + 1, o2) :: (L + 1, o3) :: news ∧ ∃ dn rs : List Mine.T, [a, b] = dn ++ rs ∧ DatAll news us (rs.map Mine.T.dat) ∧ ys = dn.map fun t => .bool (lawT num l.2.1 l.2.2 g1 g2 t))
    rfl F (drop_ N (by k_sub)) (List.mem_cons_self ..) (by show 2 ≤ sizeLine; decide) (takes_name rfl (by decide +kernel)) ⟨[va, vb], rfl, rfl, [], [a, b], rfl, .cons hva (.cons hvb .nil), rfl⟩ ?_ ?_ ?_
  · rintro r ys n' ⟨us, _, rfl, _⟩
    exact List.mem_cons_self ..
  · intro g0
    refine turns_val fun v r2 ys n' I2 oI C oC Dd m₂ h6 tk6 E' hD hB F hI2 hoC N hne hoff => ?_
    obtain ⟨rfl, dn, rs, hdr, hus, hys⟩ := hD
    have hx := hB v rfl
    cases rs with
    | nil => cases hus
    | cons t rs =>
    obtain ⟨v', r', e', hv, hr⟩ := dat_cons hus
    obtain ⟨rfl, rfl⟩ := List.cons.inj e'
    have hM : MetAt w p loose mean mg mb num t1 lv cx l g1 g2 bs0 t k := by
      have : t ∈ [a, b] := by rw [hdr]; simp
      simp only [List.mem_cons, List.not_mem_nil, or_false] at this
      rcases this with rfl | rfl <;> assumption
    simp only [Tst, if_true]
    k_steps
    all_goals (refine cend_new (l := []) (by k_asm) (by k_asm) hoC (fun _ h => nomatch h) hoff ⟨rfl, dn ++ [t], rs, by simp [hdr], hr, by rw [hys, List.map_append]; rfl⟩)
  · intro g0 ys n' hJ D h6 tk6 F N hoff
    obtain ⟨us, e3, rfl, dn, rs, hdr, hus, hys⟩ := hJ
    have := map_val_nil e3
    subst this
    cases rs with
    | cons t rs => cases hus
    | nil =>
    rw [List.append_nil] at hdr
    subst hdr
    subst hys
    change Fr g L _ _ at F
    change News g L _ _ at N
    simp only [List.map_cons, List.map_nil] at N
    k_steps
    all_goals (try dsimp only)
    all_goals (first | exact Back.intro (by k_asm) (by k_asm) (by k_sub) ⟨congrArg Value.bool (by simp [lawT, evalT]), rfl⟩ | (trace_state; w_report))

end
section
variable {w : World} {p : Program} {loose : List Str} {mean : ExcName → Option Value} {mg mb : Str → Option Value}
theorem spell_short : ∀ x ∈ SPELL, x.length ≤ 60 := by decide +kernel
theorem spell_pos : ∀ x ∈ SPELL, 0 < x.length := by decide +kernel
theorem spell_first : ∀ x ∈ SPELL, (Txt.item x 0 == Str.ofString "\\") = decide (x.cps.toList.head? = some 92) := by decide +kernel
theorem law_flag {x : Str} {fl : List Str} (hx : x ∈ SPELL) : lawFlag x fl = if (Txt.item x 0 == Str.ofString "\\") = true then (fl.map Txt.lower).any (· == Txt.lower x) else fl.any (· == x) := by
  rw [spell_first x hx]
  unfold lawFlag
  simp only [decide_eq_true_eq]
  split <;> (rw [Bool.eq_iff_iff]; simp)
local macro_rules | `(tactic| walk_at "subscriptTail Name Constant str int") => `(tactic| ((with_reducible show wpAny _ _ (subscriptTail _ _ (Value.str _ _) (Value.int 0 _)) _ _ _); k_dflt (refine item_str (by decide) (by omega) (by omega) ?_); intro h9))
local macro_rules | `(tactic| walk_at "compareOp In str ref") => `(tactic| ((with_reducible show wpAny _ _ (compareOp CmpOp.In (Value.str _ _) (Value.ref _)) _ _ _); refine' in_list_strs ?T ?S ?_; (case T => exact News.isList (by k_asm) (by k_mem)); (case S => with_reducible assumption)))
local macro_rules | `(tactic| walk_at "compareOp In str ref") => `(tactic| ((with_reducible show wpAny _ _ (compareOp CmpOp.In (Value.str _ _) (Value.ref _)) _ _ _); refine' in_tuple_strs ?T ?S ?_; (case T => exact News.isTup (by k_asm) (by k_mem)); (case S => with_reducible assumption)))
set_option maxRecDepth 100000 in
set_option maxHeartbeats 8000000 in
theorem met_flag {num : Int} {t1 : Tok} {lv : Value} {cx : Addr} {l : Int × Int × List Str} {g1 g2 : Int} {bs0 : List (Addr × Obj)} {x : Str} (hl : DatIn bs0 lv (letD l)) (hx : x ∈ SPELL) (hfl : l.2.2.length ≤ 10) (hfs : ∀ y ∈ l.2.2, y.length ≤ 60) : MetAt w p loose mean mg mb num t1 lv cx l g1 g2 bs0 (.flag x) 3 := by
  intro news tv hb ht
  obtain ⟨a, x1, y, k, rfl, hm, hx1, hy⟩ := dat_two ht
  obtain ⟨u1, rfl⟩ := dat_str hx1
  obtain ⟨u2, rfl⟩ := dat_str hy
  obtain ⟨la, lt1, lt2, fx, lk, fvs, fk, rfl, hl1, hl2, hl3⟩ := dat_let hl
  have hl1' := hb _ hl1
  have hl2' := hb _ hl2
  have hpos := spell_pos x hx
  have hlen := spell_short x hx
  have hlf := law_flag (fl := l.2.2) hx
  k_data
  refine' ct_of_bodyC (binds := [(Str.ofString "tree", .ref a), (Str.ofString "number", .int num t1), (Str.ofString "letter", .ref la), (Str.ofString "tops", .ref cx)]) ?o9 ?cd9 ?b9 ?l9 ?nd9 ?h9 ?c29 ?c39 ?c49
  case o9 => k_is
  case cd9 => k_is
  case b9 => rfl
  case l9 => rfl
  case nd9 => decide +kernel
  case c29 => rfl
  case c39 => rfl
  case c49 => rfl
  intro dp un gd outer A₀ base g L s cells B F X N T Y hlt hd hu
  k_cells Y
  simp only [List.cons_append, List.nil_append] at N
  repeat (first | walk1 | (dsimp only; walk1))
  · rename_i o1 o2 o3 d1 d2 d3 h1 tk1 D1 h2 F N l1 tk2 tk3 h9 hc hll
    have hN2 : o2.data = .cell (some (.ref la)) := d2
    clear d1 d2 d3
    rw [if_pos hc] at hlf
    refine' src_tup (vs := fvs) (k := fk) (BN (Str.ofString "flag")) (JV fun us ys n' => n' = (L + 1 + 1 + 1, o1) :: (L + 1 + 1, o2) :: (L + 1, o3) :: news ∧ ∃ dn rs : List Str, l.2.2 = dn ++ rs ∧ StrsAre us rs ∧ StrsAre ys (dn.map Txt.lower))
      rfl F (drop_ N (by k_sub)) (List.mem_cons_of_mem _ (List.mem_cons_of_mem _ (List.mem_cons_of_mem _ hl2'))) (by rw [hl3.length]; exact Nat.le_trans hfl (by decide)) (takes_name rfl (by decide +kernel)) ⟨fvs, rfl, rfl, [], l.2.2, rfl, hl3, .nil⟩ ?_ ?_ ?_
    · rintro r ys n' ⟨us, _, rfl, _⟩
      exact List.mem_cons_of_mem _ (List.mem_cons_of_mem _ (List.mem_cons_of_mem _ hl2'))
    · intro g0
      refine turns_val fun v r2 ys n' I2 oI C oC Dd m₂ h6 tk6 E' hD hB F hI2 hoC N hne hoff => ?_
      obtain ⟨rfl, dn, rs, hdr, hus, hys⟩ := hD
      have hx := hB v rfl
      cases hus with | @cons y tx _ rs' hus' =>
      have hyl := hfs y (by rw [hdr]; simp)
      simp only [Tst, if_true]
      k_steps
      all_goals (refine cend_new (l := []) (by k_asm) (by k_asm) hoC (fun _ h => nomatch h) hoff ⟨rfl, dn ++ [y], rs', by simp [hdr], hus', by rw [List.map_append]; exact strsAre_append hys (.cons _ _ .nil)⟩)
    · intro g0 ys n' hJ D h6 tk6 F N hoff
      obtain ⟨us, e3, rfl, dn, rs, hdr, hus, hys⟩ := hJ
      have := map_val_nil e3
      subst this
      cases hus
      rw [List.append_nil] at hdr
      rw [hdr] at hlf
      change Fr g L _ _ at F
      change News g L _ _ at N
      k_steps
      all_goals (try dsimp only)
      all_goals (first | exact Back.intro (by k_asm) (by k_asm) (by k_sub) ⟨congrArg Value.bool (by show _ = lawFlag x l.2.2; rw [hdr, hlf]), rfl⟩ | (trace_state; w_report))
  · k_steps
    all_goals (try dsimp only)
    all_goals (first | exact Back.intro (by k_asm) (by k_asm) (by k_sub) ⟨congrArg Value.bool (by show _ = lawFlag x l.2.2; rw [hlf, if_neg (by simp [*])]), rfl⟩ | (trace_state; w_report))

end
end
section
variable {w : World} {p : Program} {loose : List Str} {mean : ExcName → Option Value} {mg mb : Str → Option Value}
theorem met_ct {num : Int} {t1 : Tok} {lv : Value} {cx : Addr} {l : Int × Int × List Str} {g1 g2 : Int} {u1 u2 : Tok} {kc : Nat} {bs0 : List (Addr × Obj)} (hl : DatIn bs0 lv (letD l)) (hc : (cx, tupO [.int g1 u1, .int g2 u2] kc) ∈ bs0) (hfl : l.2.2.length ≤ 10) (hfs : ∀ y ∈ l.2.2, y.length ≤ 60) :
    ∀ (n : Nat) (t : Mine.T), t.ok → t.depth ≤ n → MetAt w p loose mean mg mb num t1 lv cx l g1 g2 bs0 t (3 + n)
  | n, .all, _, _ => met_all.mono (by omega)
  | n, .flag x, ho, _ => (met_flag hl ho hfl hfs).mono (by omega)
  | n, .seq x, ho, _ => (met_seq hc).mono (by omega)
  | n, .uid x, ho, _ => (met_uid hl hc).mono (by omega)
  | 0, .nt a, _, h => absurd h (by simp [T.depth])
  | 0, .or a b, _, h => absurd h (by simp [T.depth])
  | 0, .an a b, _, h => absurd h (by simp [T.depth])
  | n + 1, .nt a, ho, h => met_not (met_ct hl hc hfl hfs n a ho (by simpa [T.depth] using h))
  | n + 1, .or a b, ho, h => met_or (met_ct hl hc hfl hfs n a ho.1 (by simp only [T.depth] at h; omega)) (met_ct hl hc hfl hfs n b ho.2 (by simp only [T.depth] at h; omega))
  | n + 1, .an a b, ho, h => met_and (met_ct hl hc hfl hfs n a ho.1 (by simp only [T.depth] at h; omega)) (met_ct hl hc hfl hfs n b ho.2 (by simp only [T.depth] at h; omega))

end
end
section
local macro_rules | `(tactic| walk_at "eval ListComp") => `(tactic| ((rename Fr _ _ _ _ => lF'); (first | ((with_reducible show wpAny _ _ (eval (PySem.Expr.ListComp _ [⟨_, _, [], 0⟩] _ _) _) _ _ _); k_dflt (refine' ListComp_G (ct := none) lF' ?c1 ?c2 ?c3 ?c4 ?_)) | ((with_reducible show wpAny _ _ (eval (PySem.Expr.ListComp _ [⟨_, _, [_], 0⟩] _ _) _) _ _ _); k_dflt (refine' ListComp_G (ct := some _) lF' ?c1 ?c2 ?c3 ?c4 ?_))); (case c1 => k_dflt (exact rfl)); (case c2 => k_dflt decide); (case c3 => k_dflt (exact rfl)); (case c4 => k_dflt decide)))
local macro_rules | `(tactic| walk_at "exec Assign cons ListComp") => `(tactic| ((rename Fr _ _ _ _ => lF'); (first | ((with_reducible show wpAny _ _ (exec (PySem.Stmt.Assign _ (PySem.Expr.ListComp _ [⟨_, _, [], 0⟩] _ _) _) _) _ _ _); k_dflt (refine' Assign_ListComp_G (ct := none) lF' ?c0 ?cs ?c1 ?c2 ?c3 ?c4 ?c5 ?c6 ?_)) | ((with_reducible show wpAny _ _ (exec (PySem.Stmt.Assign _ (PySem.Expr.ListComp _ [⟨_, _, [_], 0⟩] _ _) _) _) _ _ _); k_dflt (refine' Assign_ListComp_G (ct := some _) lF' ?c0 ?cs ?c1 ?c2 ?c3 ?c4 ?c5 ?c6 ?_))); (case c0 => k_dflt (exact rfl)); (case cs => k_dflt (exact rfl)); (case c1 => k_dflt (exact rfl)); (case c2 => k_dflt decide); (case c3 => k_dflt (exact rfl)); (case c4 => k_dflt decide); (case c5 => k_dflt (exact rfl)); (case c6 => k_dflt (exact rfl))))

section
variable {w : World} {p : Program} {loose : List Str} {mean : ExcName → Option Value} {mg mb : Str → Option Value}
inductive TopsAt (g : Heap) (L a : Addr) (tv : Value) (b : Bool) (gs : Int × Int) (news : List (Addr × Obj)) (s₀ s' : Shared) : Prop
  | mk (h' : Heap) (tk' : Nat) (m' : Str → Option Value) (X0 : List (Addr × Obj)) (D : Addr) (u1 u2 : Tok) (o1 o2 o3 : Obj) (z0 : s' = { s₀ with heap := h', toks := tk' }) (F : Fr g L h' m') (km : Keep [(Str.ofString "letters", .ref a)] m') (N : News g L h' X0) (z1 : (D, tupO [.int gs.1 u1, .int gs.2 u2] 0) ∈ X0)
    (m3 : (L + 1 + 1 + 1, o3) ∈ X0) (m2 : (L + 1 + 1, o2) ∈ X0) (m1 : (L + 1, o1) ∈ X0) (d3 : o3.data = .cell (some (.ref D))) (d2 : o2.data = .cell (some (.bool b))) (d1 : o1.data = .cell (some tv)) (mn : ∀ q ∈ news, q ∈ X0) : TopsAt g L a tv b gs news s₀ s'
theorem topsL_nil {b : Bool} : topsL b [] = (0, 0) := rfl
theorem idx_item {prog : Program} {w : World} {A : Around} {E : Value → Shared → Prop} {s : Shared} {h₀ : Heap} {L a : Addr} {news : List (Addr × Obj)} {l : Int × Int × List Str} {b : Bool} {t1 t2 u : Tok} {z : Value} {k : Nat} {value slice : PySem.Expr} {Q : Value → Shared → Prop}
    (N : News h₀ L s.heap news) (hm : (a, tupO [.int l.1 t1, .int l.2.1 t2, z] k) ∈ news) (h : ∀ t, Q (.int (idxL b l) t) s)
    (hs : ∀ i : Int, subscripted slice false (.ref a) (.int i u) = operate [.ref a, .int i u] (getItem (.ref a) (.int i u)) := by intro _; with_unfolding_all rfl) :
    wpAny (model prog w) A (subscriptTail value slice (.ref a) (.int (if b then 1 else 0) u)) Q E s := by
  cases b
  · exact item_tupleT (j := 0) (News.isTup N hm) (by decide) (by decide) rfl rfl (h t1) (hs 0)
  · exact item_tupleT (j := 1) (News.isTup N hm) (by decide) (by decide) rfl rfl (h t2) (hs 1)

end
section
variable {w : World} {p : Program} {loose : List Str} {mean : ExcName → Option Value} {mg mb : Str → Option Value}

set_option maxRecDepth 100000 in
set_option maxHeartbeats 8000000 in
theorem due_ct {news : List (Addr × Obj)} {tv : Value} {a : Addr} {k : Nat} {t : Mine.T} {lvs : List Value} {ls : List (Int × Int × List Str)} (b : Bool) (hm : (a, listOf lvs.toArray k) ∈ news) (ht : DatIn news tv t.dat) (ho : t.ok) (hdep : t.depth ≤ 2) (hok : LetsOk ls) (hd9 : DatAll news lvs (ls.map letD)) :
    Ct w p loose mean mg mb 862 [tv, .ref a, .bool b] news 6 (DueR news (dueL b t ls)) := by
  k_data
  refine' ct_of_bodyC (binds := [(Str.ofString "tree", tv), (Str.ofString "letters", .ref a), (Str.ofString "is_uid", .bool b)]) ?o9 ?cd9 ?b9 ?l9 ?nd9 ?h9 ?c29 ?c39 ?c49
  case o9 => k_is
  case cd9 => k_is
  case b9 => rfl
  case l9 => rfl
  case nd9 => decide +kernel
  case c29 => rfl
  case c39 => rfl
  case c49 => rfl
  intro dp un gd outer A₀ base g L s cells B F X N T Y hlt hd hu
  k_cells Y
  have C := codeHd_of_K (c := 794) (P := 790) X (by kernel_rfl)
  simp only [List.cons_append, List.nil_append] at N
  have e1 : ∀ q ∈ news, q.1 ≠ L + 1 := fun q hq => by have := hlt q hq; exact Nat.ne_of_lt (Nat.lt_succ_of_lt this)
  have e2 : ∀ q ∈ news, q.1 ≠ L + 1 + 1 := fun q hq => by have := hlt q hq; exact Nat.ne_of_lt (Nat.lt_succ_of_lt (Nat.lt_succ_of_lt this))
  have e3 : ∀ q ∈ news, q.1 ≠ L + 1 + 1 + 1 := fun q hq => by have := hlt q hq; exact Nat.ne_of_lt (Nat.lt_succ_of_lt (Nat.lt_succ_of_lt (Nat.lt_succ_of_lt this)))
  refine stmt_cut (TopsAt g L a tv b (topsL b ls) news s) ?_ ?_
  · repeat ((fail_if_success (with_reducible show wpAny _ _ (compareOp CmpOp.NotEq _ _) _ _ _)); (first | walk1 | (dsimp only; walk1)))
    rename_i o3 o2 o1 d3 d2 d1 lG h1 F1 N1 l1
    have hN2 : o2.data = .cell (some (.bool b)) := d2
    have hN1 : o1.data = .cell (some tv) := d1
    refine' ne_nil N1 (by k_mem) (List.mem_cons_self ..) (by ke_room) ?_
    rcases List.eq_nil_or_concat ls with rfl | ⟨ls0, l0, rfl⟩
    · obtain rfl := dat_nil hd9
      k_steps
      · trivial
      rename_i D1 h2 l2 h3 o4 F2 N2 d4
      exact ⟨_, _, _, _, D1, _, _, o1, o2, o4, rfl, F2, ⟨rfl, trivial⟩, N2, List.mem_cons_self .., by simp, by simp, by simp, d4, hN2, hN1, fun q hq => by simp [hq]⟩
    · rw [List.concat_eq_append] at hok hd9 ⊢
      rw [List.map_append] at hd9
      obtain ⟨vs0, v0, rfl, h5, h6⟩ := dat_snoc hd9
      obtain ⟨pa, pt1, pt2, pfx, pk, pvs, pk2, rfl, hp1, _, _⟩ := dat_let h6
      rw [show (!(vs0 ++ [Value.ref pa]).isEmpty) = true by simp]
      repeat ((fail_if_success (with_reducible show wpAny _ _ (subscriptTail _ _ _ _) _ _ _)); (first | walk1 | (dsimp only; walk1)))
      refine' sub_last N1 (by k_mem) ?_
      repeat ((fail_if_success (with_reducible show wpAny _ _ (call (Value.type "int") _) _ _ _)); (first | walk1 | (dsimp only; walk1)))
      refine call_int_bool ?_
      repeat ((fail_if_success (with_reducible show wpAny _ _ (subscriptTail _ _ _ _) _ _ _)); (first | walk1 | (dsimp only; walk1)))
      refine' idx_item N1 (by k_mem) fun u1 => ?_
      repeat ((fail_if_success (with_reducible show wpAny _ _ (subscriptTail (PySem.Expr.Name _ _) _ _ _) _ _ _)); (first | walk1 | (dsimp only; walk1)))
      refine' sub_last N1 (by k_mem) ?_
      k_steps
      · trivial
      rename_i D1 h2 l2 h3 o4 F2 N2 d4
      rw [topsL_snoc]
      exact ⟨_, _, _, _, D1, _, _, o1, o2, o4, rfl, F2, ⟨rfl, trivial⟩, N2, List.mem_cons_self .., by simp, by simp, by simp, d4, hN2, hN1, fun q hq => by simp [hq]⟩
  · rintro _ ⟨h3, tk3, m3', X0, D1, u1, u2, o1, o2, o3, rfl, F, km, N, mt, m3, m2, m1, d3, d2, d1, mn⟩
    replace F := fr_on F km
    simp only [mOn] at F
    have htX := ht.mono mn
    repeat ((fail_if_success (with_reducible show wpAny _ _ (pyIter _) _ _ _)); (first | walk1 | (dsimp only; walk1)))
    rename_i F
    refine' src_list (BN (Str.ofString "letter")) (JV fun us ys n => n = X0 ∧ ∃ l1 l2, ls = l1 ++ l2 ∧ DatAll news us (l2.map letD) ∧ IntsAre ys ((l1.filter (metP b (topsL b ls) t)).map (idxL b)))
      rfl F N (mn _ hm) (by rw [dat_len hd9, List.length_map]; exact Nat.le_trans hok.1 (by decide)) (takes_name rfl (by decide +kernel)) ⟨lvs, rfl, rfl, [], ls, rfl, hd9, .nil⟩ ?_ ?_ ?_
    · rintro r ys n ⟨us, _, rfl, _⟩
      exact mn _ hm
    · intro g0
      refine turns_val fun v r ys n I oI C oC Dd m₂ h tk E' hD hB F hI hoC N5 hne hoff => ?_
      obtain ⟨rfl, l1, l2, hdr, hus, hys⟩ := hD
      have hx := hB v rfl
      cases l2 with
      | nil => cases hus
      | cons l l2 =>
      obtain ⟨v', r', e', hv, hr⟩ := dat_cons hus
      obtain ⟨rfl, rfl⟩ := List.cons.inj e'
      have hl9 := hok.2 l (by rw [hdr]; simp)
      obtain ⟨la, lt1, lt2, fx, lk, fvs, fk, rfl, hl1, hl2, hl3⟩ := dat_let hv
      have hl1' := mn _ hl1
      simp only [Tst]
      repeat ((fail_if_success (with_reducible show wpAny _ _ (call (Value.type "int") _) _ _ _)); (first | walk1 | (dsimp only; walk1)))
      refine call_int_bool ?_
      repeat ((fail_if_success (with_reducible show wpAny _ _ (subscriptTail _ _ _ _) _ _ _)); (first | walk1 | (dsimp only; walk1)))
      refine' idx_item N5 (by k_mem) fun w1 => ?_
      repeat ((fail_if_success (with_reducible show wpAny _ _ (call (Value.ref 857) _) _ _ _)); (first | walk1 | (dsimp only; walk1)))
      refine' ct_useU u_eq (MetAt.use (met_ct (hv.mono mn) mt hl9.1 hl9.2 2 t ho hdep) (fun q hq => List.mem_cons_of_mem _ (List.mem_cons_of_mem _ (List.mem_cons_of_mem _ hq))) (htX.mono fun q hq => List.mem_cons_of_mem _ (List.mem_cons_of_mem _ (List.mem_cons_of_mem _ hq)))) ?_ (F := by k_asm) (N := N5)
      rintro h9 tk9 F9 N9
      try dsimp only
      generalize hbm : lawT (idxL b l) l.2.1 l.2.2 (topsL b ls).1 (topsL b ls).2 t = bm
      cases bm
      · k_steps
        exact cend_new (l := []) (by k_asm) N9 hoC (fun _ h => nomatch h) hoff ⟨rfl, l1 ++ [l], l2, by rw [List.append_assoc]; exact hdr, hr, by
          rw [List.filter_append, List.filter_cons_of_neg (by rw [show metP b (topsL b ls) t l = false from hbm]; decide), List.filter_nil, List.append_nil]
          exact hys⟩
      · repeat ((fail_if_success (with_reducible show wpAny _ _ (call (Value.type "int") _) _ _ _)); (first | walk1 | (dsimp only; walk1)))
        refine call_int_bool ?_
        repeat ((fail_if_success (with_reducible show wpAny _ _ (subscriptTail _ _ _ _) _ _ _)); (first | walk1 | (dsimp only; walk1)))
        refine' idx_item N9 (by k_mem) fun w1 => ?_
        k_steps
        exact cend_new (l := []) (by k_asm) N9 hoC (fun _ h => nomatch h) hoff ⟨rfl, l1 ++ [l], l2, by rw [List.append_assoc]; exact hdr, hr, by
          rw [List.filter_append, List.map_append, List.filter_cons_of_pos (by exact hbm)]
          exact hys.append (.cons _ _ .nil)⟩
    · intro g0 ys n hJ D h tk F7 N7 hoff
      obtain ⟨us, e, rfl, l1, l2, hdr, hus, hys⟩ := hJ
      have := map_val_nil e
      subst this
      cases l2 with
      | cons l l2 => cases hus
      | nil =>
      rw [List.append_nil] at hdr
      subst hdr
      k_steps
      show Back _ _ _ _ _ _
      exact Back.intro F7 N7 (news' := (D, listOf ys.toArray ys.length) :: news) (sub_cons (List.mem_cons_self ..) fun q hq => List.mem_cons_of_mem _ (mn q hq)) ⟨D, ys, ys.length, rfl, rfl, fun q hq => hoff q (mn q hq), hys⟩

end
section
variable {w : World} {p : Program} {loose : List Str} {mean : ExcName → Option Value} {mg mb : Str → Option Value}
local macro_rules | `(tactic| walk_at "call type:tuple") => `(tactic| ((with_reducible show wpAny _ _ (call (Value.type _) [Value.ref _]) _ _ _); k_dflt (refine' tup_of ?F ?N ?m ?l ?_; (case F => k_asm); (case N => k_asm); (case m => k_mem); (case l => (simp only [List.length_append, List.length_cons, List.length_nil] at *; omega))); intro D9 h9 F9 N9 hO9))
local macro_rules | `(tactic| k_mem) => `(tactic| ((repeat (refine List.mem_cons_of_mem _ ?_)); refine List.mem_append_right _ ?_; (repeat (refine List.mem_cons_of_mem _ ?_)); with_reducible assumption))
local macro_rules | `(tactic| walk_at "call ref") => `(tactic| ((with_reducible show wpAny _ _ (call (Value.ref 832) _) _ _ _); refine' ct_useU u_taken (taken_ct ?S ?ne ?off ?l ?l2 ?t ?t2) ?_ (hs := ?s); (case S => assumption); (case ne => assumption); (case off => assumption); (case l => decide); (case l2 => decide); (case t => first | ((repeat refine nn1 ?_) <;> assumption) | omega); (case t2 => omega); (case s => first | assumption | exact fun _ h => h); (intro h9 tk9 F9 d9 u9 S9 h09 h19 hS9 N9); (try dsimp only)))
set_option maxRecDepth 100000 in
set_option maxHeartbeats 8000000 in
theorem some_ct {sa ca : Addr} {turn : Int} {S rest : List (Addr × Obj)} (hS : Src sa ca turn S) (hne : @Ne Nat sa ca) (hr : Off2 sa ca rest) (ht : 0 ≤ turn) (ht2 : turn < 900) :
    Ct w p loose mean mg mb 842 [.ref sa] (S ++ rest) 3 (SrcR sa ca turn 5 rest fun r ex => ∃ ps : List (Int × Int), (∀ q ∈ ps, 0 ≤ q.1 ∧ 0 ≤ q.2) ∧ DatIn ex r (.tuple (ps.map pairD))) := by
  k_data
  refine' ct_of_bodyC (binds := [(Str.ofString "source", .ref sa)]) ?o9 ?cd9 ?b9 ?l9 ?nd9 ?h9 ?c29 ?c39 ?c49
  case o9 => k_is
  case cd9 => k_is
  case b9 => rfl
  case l9 => rfl
  case nd9 => decide +kernel
  case c29 => rfl
  case c39 => rfl
  case c49 => rfl
  intro dp un gd outer A₀ base g L s cells B F X N T Y hlt hd hu
  k_cells Y
  simp only [List.cons_append, List.nil_append] at N
  rename_i o1 d1
  have hc1 : o1.data = .cell (some (.ref sa)) := d1
  clear d1
  have hr1 := Off2.cell (o := o1) (k := 1) hS hr hlt
  replace N := drop_ N perm_one
  have m1 : (L + 1, o1) ∈ (L + 1, o1) :: rest := List.mem_cons_self ..
  have mr : ∀ q ∈ rest, q ∈ (L + 1, o1) :: rest := fun q hq => List.mem_cons_of_mem _ hq
  generalize hX : (L + 1, o1) :: rest = X0 at *
  repeat ((fail_if_success (with_reducible show wpAny _ _ (call (Value.type _) _) _ _ _)); (first | walk1 | (dsimp only; walk1)))
  rename_i h9 tk9 F9 d9 u9 S9 h09 h19 hS9 N9
  obtain ⟨n, hn⟩ := Int.eq_ofNat_of_zero_le (show 0 ≤ 1 + d9 by omega)
  refine call_range_eq hn ?_
  refine' src_range (fun a _ m => ItmIs (Str.ofString "turn") a m) (JI rTok fun us ys n' => ∃ (t1 : Int) (S1 ex1 : List (Addr × Obj)) (ps : List (Int × Int)), n' = S1 ++ (ex1 ++ X0) ∧ Src sa ca t1 S1 ∧ turn + 1 ≤ t1 ∧ t1 + 2 * us.length ≤ turn + 5 ∧ Off2 sa ca ex1 ∧ Apart ex1 X0 ∧ DatAll ex1 ys (ps.map pairD) ∧ (∀ q ∈ ps, 0 ≤ q.1 ∧ 0 ≤ q.2) ∧ ps.length + us.length ≤ 10)
    rfl F9 N9 (by omega) (takes_one (fun _ => trivial) rfl (by decide +kernel)) ⟨List.range n, rfl, turn + 1, S9, [], [], rfl, hS9, by omega, by simp only [List.length_range]; omega, fun _ h => (nomatch h), Apart.nil, .nil, fun _ h => (nomatch h), by simp only [List.length_range, List.length_nil]; omega⟩ ?_ ?_
  · intro g0 tk0
    refine turns_one fun i r ys n' I oI C oC Dd m₂ h tk E' hD hB F hI hoC N hne' hoff => ?_
    obtain ⟨t1, S1, ex1, ps, rfl, hS1, a1, a2, a3, a4, a5, a6, a7⟩ := hD
    simp only [List.length_cons] at a2 a7
    have hr2 := off_src (oI := oI) (oC := oC) (oD := LCg.lst ys) hS1 hoff (a3.app hr1)
    replace N := drop_ N mem_perm
    have m2 := sub_app (ex := ex1) _ m1
    simp only [Tst, if_true]
    k_steps
    rename_i da ua Sa ha1 ha2 hSa cE hb9 tb db ub Sb hb1 hb2 hSb D' h' F' N' l1
    exact cend_src F' N' hoC hSb hS1 hoff l1 ⟨t1 + 1 + 1, Sb, (D', _) :: ex1, ps ++ [(da, db)], rfl, hSb, by omega, by omega, off_new hSb l1 a3, Apart.cons (fun r hr => Nat.ne_of_gt (l1 r (by simp [hr]))) a4,
      by rw [List.map_append]; exact dat_app (a5.mono (fun q hq => List.mem_cons_of_mem _ hq)) (.cons (pair_in (List.mem_cons_self ..)) .nil), fun q hq => by
        rcases List.mem_append.mp hq with hq | hq
        · exact a6 q hq
        · rw [List.mem_singleton.mp hq]; exact ⟨ha1, hb1⟩, by simp only [List.length_append, List.length_singleton]; omega⟩
  · intro g0 tk0 ys n' hJ D h tk F N hoff
    obtain ⟨us, e, t1, S1, ex1, ps, rfl, hS1, a1, a2, a3, a4, a5, a6, a7⟩ := hJ
    have := map_itm_nil e
    subst this
    have hyl : ys.length = ps.length := by rw [dat_len a5, List.length_map]
    k_steps
    rename_i D9 h9 F9 N9 hO9
    show Back _ _ _ _ _ _
    refine Back.intro F9 N9 (news' := S1 ++ (((D9, tupO ys 0) :: ex1) ++ rest)) (fun q hq => ?_) ⟨t1, S1, (D9, tupO ys 0) :: ex1, rfl, hS1, by omega, by simp at a2; omega, off_new hS1 (fun p hp => hO9 p (List.mem_cons_of_mem _ hp)) a3, Apart.cons (fun r hr => Nat.ne_of_gt (hO9 r (by simp [mr r hr]))) (fun q hq r hr => a4 q hq r (mr r hr)),
      ps, a6, .tuple (List.mem_cons_self ..) (a5.mono fun q hq => List.mem_cons_of_mem _ hq)⟩
    simp only [List.mem_append, List.mem_cons] at hq ⊢
    rcases hq with h | (h | h) | h
    · simp [h]
    · simp [h]
    · simp [h]
    · simp [mr q h]

end
section
variable {w : World} {p : Program} {loose : List Str} {mean : ExcName → Option Value} {mg mb : Str → Option Value}
local macro_rules | `(tactic| walk_at "call ref") => `(tactic| ((with_reducible show wpAny _ _ (call (Value.ref 832) _) _ _ _); refine' ct_useU u_taken (taken_ct ?S ?ne ?off ?l ?l2 ?t ?t2) ?_ (hs := ?s); (case S => assumption); (case ne => assumption); (case off => assumption); (case l => decide); (case l2 => decide); (case t => first | ((repeat refine nn1 ?_) <;> assumption) | omega); (case t2 => omega); (case s => first | assumption | exact fun _ h => h); (intro h9 tk9 F9 d9 u9 S9 h09 h19 hS9 N9); (try dsimp only)))
set_option maxRecDepth 100000 in
set_option maxHeartbeats 8000000 in
theorem tree_step {z dm dm' : Int} {k : Nat} (hz : 0 ≤ z) (hA : 0 < z → TreeAt w p loose mean mg mb (z - 1) dm (k + 3)) (h2 : 2 * dm + 1 ≤ dm') (h6 : 6 ≤ dm') (h7 : dm' ≤ 50) (h8 : 0 ≤ dm) : TreeAt w p loose mean mg mb z dm' (k + 3 + 1) := by
  intro S rest sa ca turn t2 hS hne hr ht ht2
  k_data
  refine' ct_of_body (binds := [(Str.ofString "source", .ref sa), (Str.ofString "depth", .int z t2)]) ?o ?cd ?b ?l ?h ?c2 ?c3 ?c4 ?c5
  case o => k_is
  case cd => k_is
  case b => rfl
  case l => exact locs rfl
  case c2 => rfl
  case c3 => rfl
  case c4 => rfl
  case c5 => decide
  intro dp un gd outer A₀ base g L s B F X N T hd hu
  simp only [List.reverse_cons, List.reverse_nil, List.nil_append, List.cons_append, mOf] at F
  k_fold
  refine cutN (WayAt g L sa ca z turn t2 rest s) ?_ ?_
  · k_steps
    · rename_i hz h9 tk9 d9 u9 S9 h09 h19 hS9 h8 F8 N8
      exact ⟨rfl, way_intro F8 N8 ⟨rfl, rfl, rfl, trivial⟩ hS9 h09 h19 fun _ => hz⟩
    · rename_i hz h9 tk9 d9 u9 S9 h09 h19 hS9 h8 F8 N8
      exact ⟨rfl, way_intro F8 N8 ⟨rfl, rfl, rfl, trivial⟩ hS9 h09 (by omega) fun _ => by omega⟩
  · rintro _ ⟨h, tk, m, wv, u, S1, rfl, F, km, N, hS1, w0, w1, w2⟩
    replace F := fr_on F km
    simp only [mOn] at F
    clear hS km
    have hln : @LE.le Int _ 0 z := hz
    repeat' ((fail_if_success (with_reducible show wpAny _ _ (call (Value.ref _) _) _ _ _)); (fail_if_success (with_reducible show wpAny _ _ (subscriptTail _ _ (Value.ref _) _) _ _ _)); (first | walk1 | (dsimp only; walk1)))
    · rename_i hw tk D h1 F1 N1 l1
      show Back _ _ _ _ _ _
      exact tree_end (ex := []) (t := .all) F1 N1 (List.mem_cons_self ..) (fun q hq => List.mem_cons_of_mem _ hq) l1 hS1 (by omega) (by omega) (fun _ h => nomatch h) Apart.nil trivial hz (.tuple (List.mem_cons_self ..) (.cons (.str _ _) .nil))
    · rename_i hw0 tk0 hw tk1
      repeat ((fail_if_success (with_reducible show wpAny _ _ (subscriptTail _ _ (Value.ref _) _) _ _ _)); (first | walk1 | (dsimp only; walk1)))
      rename_i h1 tk2 F1 i1 ui Sa a1 a2 hSa N1
      refine KTb.item_tup (vs := flagVals) (ws := FLAGS) ⟨_, F1.keep 820 _ (flags_at X), rfl, 0, rfl⟩ flagVals_strs a1 (by show _ < (5 : Int); omega) (by omega) (fun u1 hl1 => ?_)
      have hx := flag_item (i := i1.toNat) hl1
      generalize FLAGS.getD i1.toNat Str.empty = x at hx ⊢
      have hxl := flags_short x hx
      repeat ((fail_if_success (with_reducible show wpAny _ _ (call (Value.type "enumerate") _) _ _ _)); (first | walk1 | (dsimp only; walk1)))
      rename_i h2 tk3 d2 u2 S2 b1 b2 hS2 D2 h3 l2 h4 h5 h6 F6 N6
      replace N6 := drop_ N6 (fun q hq => List.mem_cons_of_mem _ hq)
      refine' src_enumS (fun a _ m => PairIs (Str.ofString "at") (Str.ofString "sign") a m) (JI eSign fun rs ys n' => n' = S2 ++ rest ∧ ∃ dn, zipS x = dn ++ rs ∧ StrsAre ys (dn.map mixOne)) rfl F6 N6 (by omega) (takes_pair (fun _ => trivial) rfl rfl (fun _ => rfl) (by decide +kernel) (by decide)) ⟨zipS x, rfl, rfl, [], rfl, .nil⟩ ?_ ?_
      · intro IE gE
        refine turns_two (f1 := fun _ => IE + 1) (f2 := fun _ => IE) fun u r ys n' J1 J2 oJ1 oJ2 C oC Dd m₂ h tk E' hD hB F hI1 hI2 hoC N hoff => ?_
        obtain ⟨rfl, dn, hdr, hys⟩ := hD
        obtain ⟨ui, uc⟩ := u
        obtain ⟨⟨ta, hat⟩, us, hsg, hfl⟩ := hB
        have hui0 : (0 : Int) ≤ (ui : Int) := by omega
        obtain ⟨ut, rfl⟩ : ∃ t, us = .str ⟨#[uc]⟩ t := by
          have hr := hfl h
          cases hr
          exact ⟨_, rfl⟩
        have hlen : (⟨#[uc]⟩ : Str).length ≤ 1 := Nat.le_refl 1
        simp only [Tst, if_true]
        k_steps
        · rename_i hb _
          exact cend_two (l := []) (by k_asm) (by k_asm) hoC (fun _ h => nomatch h) hoff ⟨rfl, dn ++ [(ui, uc)], by rw [List.append_assoc]; exact hdr, by rw [List.map_append]; refine strsAre_append hys ?_; show StrsAre _ [mixOne (ui, uc)]; rw [mix_up hb]; exact .cons _ _ .nil⟩
        · rename_i hb _
          exact cend_two (l := []) (by k_asm) (by k_asm) hoC (fun _ h => nomatch h) hoff ⟨rfl, dn ++ [(ui, uc)], by rw [List.append_assoc]; exact hdr, by rw [List.map_append]; refine strsAre_append hys ?_; show StrsAre _ [mixOne (ui, uc)]; rw [mix_low hb]; exact .cons _ _ .nil⟩
      · intro gE ys n' hJ D h tk F N hoff2
        obtain ⟨us, e, rfl, dn, hdr, hys⟩ := hJ
        have := map_itm_nil e
        subst this
        rw [List.append_nil] at hdr
        subst hdr
        repeat ((fail_if_success (with_reducible show wpAny _ _ (call (Value.builtin "str.join") _) _ _ _)); (fail_if_success (with_reducible show wpAny _ _ (subscriptTail _ _ (Value.ref _) _) _ _ _)); (first | walk1 | (dsimp only; walk1)))
        rename_i lu ll
        refine join_strs N (List.mem_cons_self ..) hys (join_ok x hx) (fun tj kj => ?_)
        repeat ((fail_if_success (with_reducible show wpAny _ _ (subscriptTail _ _ (Value.ref _) _) _ _ _)); (first | walk1 | (dsimp only; walk1)))
        rename_i D5 h5 F5 N5 l5
        refine KTb.item_tup (ws := fourOf x) (News.isTup N5 (List.mem_cons_self ..)) (.cons _ _ (.cons _ _ (.cons _ _ (.cons _ _ .nil)))) b1 (by show _ < (4 : Int); omega) (by omega) (fun u5 hl5 => ?_)
        have hin := four_in x hx ⟨d2.toNat, by omega⟩
        k_steps
        rename_i D7 h7 F7 N7 l7
        show Back _ _ _ _ _ _
        exact tree_end (ex := []) (t := .flag ((fourOf x).getD d2.toNat Str.empty)) F7 N7 (List.mem_cons_self ..) (fun q hq => List.mem_cons_of_mem _ (List.mem_cons_of_mem _ (List.mem_cons_of_mem _ hq))) (fun q hq => allLt_mem l7.2.2 q hq) hS2 (by omega) (by omega) (fun _ h => nomatch h) Apart.nil hin hz (.tuple (List.mem_cons_self ..) (.cons (.str _ _) (.cons (.str _ _) .nil)))
    · rename_i hw0 tk0 hw1 tk1 hw tk D h1 F1 N1 l1
      refine KTb.item_tup (ws := [Str.ofString "seq", Str.ofString "uid"]) (News.isTup N1 (List.mem_cons_self ..)) (.cons _ _ (.cons _ _ .nil)) (by omega) (by show _ < (2 : Int); omega) (by omega) (fun u1 hl1 => ?_)
      repeat ((fail_if_success (with_reducible show wpAny _ _ (call (Value.ref _) _) _ _ _)); (first | walk1 | (dsimp only; walk1)))
      refine' ct_useU u_src (some_ct hS1 hne hr (by omega) (by omega)) ?_ (hs := (fun q hq => List.mem_cons_of_mem _ hq)) (F := F1) (N := N1) (hd := (by omega)) (hu := (by omega))
      rintro h9 tk9 F9 r9 t' S' ex hS' b1 b2 b3 b4 ⟨ps, hps, hda⟩ N9
      k_steps
      rename_i D2 h3 F3 N3 l3
      show Back _ _ _ _ _ _
      rcases (show wv = 2 ∨ wv = 3 by omega) with rfl | rfl
      · exact tree_end (t := .seq ps) F3 N3 (List.mem_cons_self ..) (fun q hq => List.mem_cons_of_mem _ hq) l3 hS' (by omega) (by omega) b3 b4 hps hz (.tuple (List.mem_cons_self ..) (.cons (.str _ _) (.cons (hda.mono fun q hq => List.mem_cons_of_mem _ hq) .nil)))
      · exact tree_end (t := .uid ps) F3 N3 (List.mem_cons_self ..) (fun q hq => List.mem_cons_of_mem _ hq) l3 hS' (by omega) (by omega) b3 b4 hps hz (.tuple (List.mem_cons_self ..) (.cons (.str _ _) (.cons (hda.mono fun q hq => List.mem_cons_of_mem _ hq) .nil)))
    · rename_i hw0 tk0 hw1 tk1 hw2 tk2 hw tk3
      have hzp : 0 < z := w2 (by omega)
      refine' ct_useU u_src ((hA hzp).use hS1 hne hr (by omega) (by omega)) ?_ (F := F) (N := N) (hd := (by omega)) (hu := (by omega))
      rintro h9 tk9 F9 r9 t' S' ex hS' b1 b2 b3 b4 ⟨ta, hok, hdp, hda⟩ N9
      k_steps
      rename_i D2 h3 F3 N3 l3
      show Back _ _ _ _ _ _
      exact tree_end (t := .nt ta) F3 N3 (List.mem_cons_self ..) (fun q hq => List.mem_cons_of_mem _ hq) l3 hS' (by omega) (by omega) b3 b4 hok (by simp only [Mine.T.depth]; omega) (.tuple (List.mem_cons_self ..) (.cons (.str _ _) (.cons (hda.mono fun q hq => List.mem_cons_of_mem _ hq) .nil)))
    · rename_i hw0 tk0 hw1 tk1 hw2 tk2 hw tk3 D h1 F1 N1 l1
      have hzp : 0 < z := w2 (by omega)
      refine KTb.item_tup (ws := [Str.ofString "and", Str.ofString "or"]) (News.isTup N1 (List.mem_cons_self ..)) (.cons _ _ (.cons _ _ .nil)) (by omega) (by show _ < (2 : Int); omega) (by omega) (fun u1 hl1 => ?_)
      repeat ((fail_if_success (with_reducible show wpAny _ _ (call (Value.ref _) _) _ _ _)); (first | walk1 | (dsimp only; walk1)))
      refine' ct_useU u_src ((hA hzp).use hS1 hne hr (by omega) (by omega)) ?_ (hs := (fun q hq => List.mem_cons_of_mem _ hq)) (F := F1) (N := N1) (hd := (by omega)) (hu := (by omega))
      rintro h9 tk9 F9 r9 t' S' ex hS' b1 b2 b3 b4 ⟨ta, hok, hdp, hda⟩ N9
      repeat ((fail_if_success (with_reducible show wpAny _ _ (call (Value.ref _) _) _ _ _)); (first | walk1 | (dsimp only; walk1)))
      refine' ct_useU u_src ((hA hzp).use hS' hne (b3.app hr) (by omega) (by omega)) ?_ (F := F9) (N := N9) (hd := (by omega)) (hu := (by omega))
      rintro h8 tk8 F8 r8 t5 S5 ex5 hS5 c1 c2 c3 c4 ⟨tb, hok5, hdp5, hda5⟩ N8
      k_steps
      rename_i D2 h3 F3 N3 l3
      have hap : Apart (ex5 ++ ex) rest := (c4.sub fun q hq => List.mem_append_right _ hq).app b4
      have hass : ∀ q ∈ S5 ++ ((ex5 ++ ex) ++ rest), q ∈ S5 ++ (ex5 ++ (ex ++ rest)) := fun q hq => by simpa using hq
      have e1 : DatIn ((D2, tupO [.str ([Str.ofString "and", Str.ofString "or"].getD (wv - 5).toNat Str.empty) u1, r9, r8] 0) :: (ex5 ++ ex)) r9 ta.dat := hda.mono fun q hq => by simp [hq]
      have e2 : DatIn ((D2, tupO [.str ([Str.ofString "and", Str.ofString "or"].getD (wv - 5).toNat Str.empty) u1, r9, r8] 0) :: (ex5 ++ ex)) r8 tb.dat := hda5.mono fun q hq => by simp [hq]
      show Back _ _ _ _ _ _
      rcases (show wv = 5 ∨ wv = 6 by omega) with rfl | rfl
      · exact tree_end (ex := ex5 ++ ex) (t := .an ta tb) F3 N3 (List.mem_cons_self ..) (fun q hq => List.mem_cons_of_mem _ (hass q hq)) (fun q hq => l3 q (hass q hq)) hS5 (by omega) (by omega) (c3.app b3) hap ⟨hok, hok5⟩ (by simp only [Mine.T.depth]; omega) (.tuple (List.mem_cons_self ..) (.cons (.str _ _) (.cons e1 (.cons e2 .nil))))
      · exact tree_end (ex := ex5 ++ ex) (t := .or ta tb) F3 N3 (List.mem_cons_self ..) (fun q hq => List.mem_cons_of_mem _ (hass q hq)) (fun q hq => l3 q (hass q hq)) hS5 (by omega) (by omega) (c3.app b3) hap ⟨hok, hok5⟩ (by simp only [Mine.T.depth]; omega) (.tuple (List.mem_cons_self ..) (.cons (.str _ _) (.cons e1 (.cons e2 .nil))))
theorem tree_ct : TreeAt w p loose mean mg mb 2 27 (3 + 1 + 1 + 1) := by
  have h0 : TreeAt w p loose mean mg mb 0 6 (0 + 3 + 1) := tree_step (dm := 0) (by omega) (fun h => absurd h (by omega)) (by omega) (by omega) (by omega) (by omega)
  have h1 : TreeAt w p loose mean mg mb 1 13 (1 + 3 + 1) := tree_step (dm := 6) (by omega) (fun _ => h0) (by omega) (by omega) (by omega) (by omega)
  exact tree_step (dm := 13) (k := 2) (by omega) (fun _ => h1) (by omega) (by omega) (by omega) (by omega)

end
section
variable {w : World} {p : Program} {loose : List Str} {mean : ExcName → Option Value} {mg mb : Str → Option Value}
set_option maxRecDepth 100000 in
set_option maxHeartbeats 8000000 in
theorem store_ct {rest : List (Addr × Obj)} {a : Addr} {vs : List Value} {ns : List Int} (hi : IntsAre vs ns) (hsz : vs.length ≤ 1000) :
    CtL w p loose mean mg mb 825 [.ref a] a vs.toArray rest 2 (fun r n => ∃ (sa ca : Addr) (S : List (Addr × Obj)), r = .ref sa ∧ n = S ++ rest ∧ Src sa ca 0 S ∧ @Ne Nat sa ca ∧ Apart S rest) := by
  k_data
  refine' ct_of_bodyL (binds := [(Str.ofString "script", .ref a)]) ?o ?cd ?b ?l ?h ?c2 ?c3 ?c4 ?c5
  case o => k_is
  case cd => k_is
  case b => rfl
  case l => exact locs rfl
  case c2 => rfl
  case c3 => rfl
  case c4 => rfl
  case c5 => decide
  intro dp un gd outer A₀ base g L s hl B F X N T hd hu
  simp only [List.reverse_cons, List.reverse_nil, List.nil_append, List.cons_append, mOf] at F
  k_fold
  repeat (first | walk1 | (dsimp only; walk1))
  rename_i D1 ws1 h1 F1 N1 l1 hi1 hc1 hl1
  have hw1 := hi1.length
  refine' src_list (BN (Str.ofString "cell")) (JV fun us ys n => n = (D1, listOf ws1.toArray 0) :: rest ∧ ∃ xs zs : List Int, IntsAre us xs ∧ IntsAre ys zs ∧ zs.length + xs.length ≤ 40)
    rfl F1 N1 (List.mem_cons_self ..) (by rw [hw1, hc1]; exact Nat.le_trans (Nat.min_le_left ..) (by decide)) (takes_name rfl (by decide +kernel)) ⟨ws1, rfl, rfl, _, [], hi1, .nil, by rw [hc1]; simp; omega⟩ ?_ ?_ ?_
  · rintro r ys n ⟨us, _, rfl, _⟩
    exact List.mem_cons_self ..
  · intro g0
    refine turns_val fun v r ys n I oI C oC Dd m₂ h tk E' hD hB F hI hoC N hne hoff => ?_
    obtain ⟨rfl, xs, zs, hus, hys, hln⟩ := hD
    have hx := hB v rfl
    cases hus with | @cons x tx _ xs' hus' =>
    simp only [Tst, if_true]
    k_steps
    exact cend_new (l := []) F N hoC (fun _ h => nomatch h) hoff ⟨rfl, xs', zs ++ [_], hus', hys.append (.cons _ _ .nil), by simp only [List.length_append, List.length_cons, List.length_nil] at hln ⊢; omega⟩
  · intro g0 ys n hJ D h tk F7 N7 hoff
    obtain ⟨us, e, rfl, xs, zs, hus, hys, hln⟩ := hJ
    have := map_val_nil e
    subst this
    cases hus
    k_steps
    rename_i l9 h9 F9 N9 l2
    show Back _ _ _ _ _ _
    refine Back.intro F9 N9 (news' := [(l9, listOf #[.ref D, .int 0 tk] 0), (D, listOf ys.toArray ys.length)] ++ rest) (fun q hq => ?_) ⟨l9, D, [(l9, listOf #[.ref D, .int 0 tk] 0), (D, listOf ys.toArray ys.length)], rfl, rfl, ⟨tk, 0, ys.length, ys, zs, rfl, hys, by simpa using hln⟩, Nat.ne_of_gt l2.1,
      Apart.cons (fun r hr => Nat.ne_of_gt (allLt_mem l2.2.2 r hr)) (Apart.cons (fun r hr => Ne.symm (hoff r (List.mem_cons_of_mem _ hr))) Apart.nil)⟩
    rcases List.mem_cons.mp hq with rfl | hq
    · exact List.mem_cons_self ..
    rcases List.mem_cons.mp hq with rfl | hq
    · exact List.mem_cons_of_mem _ (List.mem_cons_self ..)
    · exact List.mem_cons_of_mem _ (List.mem_cons_of_mem _ (List.mem_cons_of_mem _ hq))

end
section
local macro_rules | `(tactic| walk_at "exec For Name Name cons nil") => `(tactic| ((rename Fr _ _ _ _ => lF'); (with_unfolding_all refine' For_turns lF' ?_)))
local macro_rules | `(tactic| walk_at "exec For Name Call cons nil") => `(tactic| ((rename Fr _ _ _ _ => lF'); (with_unfolding_all refine' For_turns lF' ?_)))
local macro_rules | `(tactic| walk_at "exec For Tuple Name cons nil") => `(tactic| ((rename Fr _ _ _ _ => lF'); (with_unfolding_all refine' For_turns lF' ?_)))

section
variable {w : World} {p : Program} {loose : List Str} {mean : ExcName → Option Value} {mg mb : Str → Option Value}
local macro_rules | `(tactic| walk_at "call type:tuple") => `(tactic| ((with_reducible show wpAny _ _ (call (Value.type _) [Value.ref _]) _ _ _); k_dflt (refine' tup_of ?F ?N ?m ?l ?_; (case F => k_asm); (case N => k_asm); (case m => k_mem); (case l => (simp only [List.length_append, List.length_cons, List.length_nil] at *; omega))); intro D9 h9 F9 N9 hO9))
local macro_rules | `(tactic| k_upd) => `(tactic| (refine' Upd.left ?a ?b; (case b => exact Src.ne (by assumption) (by assumption) (by assumption)); (case a => k_upd)))
local macro_rules | `(tactic| k_updF) => `(tactic| (refine' UpdF.left ?a ?b; (case b => exact Src.ne (by assumption) (by assumption) (by assumption)); (case a => k_updF)))
local macro_rules | `(tactic| k_mem) => `(tactic| ((repeat (refine List.mem_cons_of_mem _ ?_)); refine List.mem_append_right _ ?_; (repeat (refine List.mem_cons_of_mem _ ?_)); with_reducible assumption))
local macro_rules | `(tactic| walk_at "call ref") => `(tactic| ((with_reducible show wpAny _ _ (call (Value.ref 832) _) _ _ _); refine' ct_useU u_taken (taken_ct ?S ?ne ?off ?l ?l2 ?t ?t2) ?_ (hs := ?s); (case S => assumption); (case ne => assumption); (case off => assumption); (case l => decide); (case l2 => decide); (case t => first | ((repeat refine nn1 ?_) <;> assumption) | omega); (case t2 => omega); (case s => first | assumption | exact fun _ h => h); (intro h9 tk9 F9 d9 u9 S9 h09 h19 hS9 N9); (try dsimp only)))
set_option maxRecDepth 100000 in
set_option maxHeartbeats 8000000 in
theorem letters_ct {sa ca : Addr} {turn : Int} {S rest : List (Addr × Obj)} (hS : Src sa ca turn S) (hne : @Ne Nat sa ca) (hr : Off2 sa ca rest) (ht : 0 ≤ turn) (ht2 : turn < 900) :
    Ct w p loose mean mg mb 837 [.ref sa] (S ++ rest) 3 (SrcR sa ca turn 22 rest fun r ex => ∃ (D : Addr) (lvs : List Value) (k : Nat) (ls : List (Int × Int × List Str)), r = .ref D ∧ (D, listOf lvs.toArray k) ∈ ex ∧ DatAll ex lvs (ls.map letD) ∧ LetsGood ls) := by
  k_data
  refine' ct_of_bodyC (binds := [(Str.ofString "source", .ref sa)]) ?o9 ?cd9 ?b9 ?l9 ?nd9 ?h9 ?c29 ?c39 ?c49
  case o9 => k_is
  case cd9 => k_is
  case b9 => rfl
  case l9 => rfl
  case nd9 => decide +kernel
  case c29 => rfl
  case c39 => rfl
  case c49 => rfl
  intro dp un gd outer A₀ base g L s cells B F X N T Y hlt hd hu
  k_cells Y
  simp only [List.cons_append, List.nil_append] at N
  rename_i o1 d1
  have hc1 : o1.data = .cell none := d1
  clear d1
  have hr1 := Off2.cell (o := o1) (k := 1) hS hr hlt
  replace N := drop_ N perm_one
  have m1 : (L + 1, o1) ∈ (L + 1, o1) :: rest := List.mem_cons_self ..
  repeat ((fail_if_success (with_reducible show wpAny _ _ (call (Value.ref 832) _) _ _ _)); (first | walk1 | (dsimp only; walk1)))
  rename_i lo h1 l1 D1 h2 l2 h3 h4 h5 h6 F N
  have hrl := off_new (o := listOf ([] : List Value).toArray 0) hS l1 hr1
  replace N : News g L h6 (S ++ ((lo, listOf ([] : List Value).toArray 0) :: (L + 1, o1) :: rest)) := drop_ N (fun q hq => List.mem_cons_of_mem _ (perm_one q hq))
  repeat ((fail_if_success (with_reducible show wpAny _ _ (call (Value.type _) _) _ _ _)); (first | walk1 | (dsimp only; walk1)))
  rename_i h9 tk9 F9 d9 u9 S9 h09 h19 hS9 N9
  obtain ⟨n, hn⟩ := Int.eq_ofNat_of_zero_le h09
  refine call_range_eq hn ?_
  have hsa := (hlt (sa, _) (List.mem_append_left _ hS.mem.1.choose_spec))
  have hca := (hlt (ca, _) (List.mem_append_left _ hS.mem.2.choose_spec))
  have n1 : @Ne Nat sa (L + 1) := Nat.ne_of_lt (Nat.lt_succ_of_lt hsa)
  have n2 : @Ne Nat ca (L + 1) := Nat.ne_of_lt (Nat.lt_succ_of_lt hca)
  have n3 : @Ne Nat sa lo := Nat.ne_of_lt (l1 (sa, _) (List.mem_append_left _ hS.mem.1.choose_spec))
  have n4 : @Ne Nat ca lo := Nat.ne_of_lt (l1 (ca, _) (List.mem_append_left _ hS.mem.2.choose_spec))
  have n5 : @Ne Nat (L + 1) lo := Nat.ne_of_lt (l1 (L + 1, o1) (by simp))
  refine' range_inv (D := LetsInv sa ca lo L turn rest) rfl F9 N9 (by omega) ⟨0, 0, _, _, o1, _, [], 0, turn + 1, S9, [], [], ⟨rfl, rfl, rfl, rfl, trivial⟩, rfl, hc1, hS9, by omega, by omega, hr, Apart.nil,
    fun q hq => ⟨Nat.ne_of_lt (l1 q (by simp at hq; simp [hq])), Nat.ne_of_lt (Nat.lt_succ_of_lt (hlt q (by simp at hq; simp [hq])))⟩, .nil, by simp only [List.length_nil]; omega, fun _ h => (nomatch h), by omega, by omega⟩ ?_ ?_
  · clear F9 N9
    intro m n h tk hD F N
    obtain ⟨num, uid, tn, tu, oc, cv, lvs, kk, t1, S1, ex1, ls, km, rfl, hcv, hS1, a1, a2, a3, a4, a5, a6, a7, a8, a9, a10⟩ := hD
    replace F := fr_on F km
    simp only [mOn] at F
    change Fr g L _ _ at F
    change News g L _ _ at N
    dsimp only
    k_steps
    dsimp only
    k_steps
    show Back _ _ _ _ _ _
    refine Back.intro F N (news' := S1 ++ (((lo, listOf lvs.toArray kk) :: ex1) ++ rest)) (fun q hq => ?_) ⟨t1, S1, (lo, listOf lvs.toArray kk) :: ex1, rfl, hS1, by omega, by omega, Off2.cons (Ne.symm n3) (Ne.symm n4) (fun q hq => a3 q (List.mem_append_left _ hq)), Apart.cons (fun r hr => Ne.symm (a5 r (List.mem_append_right _ hr)).1) a4,
      lo, lvs, kk, ls, rfl, List.mem_cons_self .., a6.mono (fun q hq => List.mem_cons_of_mem _ hq), by omega, a8⟩
    simp only [List.mem_append, List.mem_cons] at hq ⊢
    rcases hq with h | (h | h) | h <;> simp [h]
  · clear F9 N9
    intro I i t k m n h tk o hoff hD ho F N
    obtain ⟨num, uid, tn, tu, oc, cv, lvs, kk, t1, S1, ex1, ls, km, rfl, hcv, hS1, a1, a2, a3, a4, a5, a6, a7, a8, a9, a10⟩ := hD
    replace F := fr_on F km
    simp only [mOn] at F
    change Fr g L _ _ at F
    change News g L _ _ at N
    have i1 : @Ne Nat sa I := hoff (sa, _) (List.mem_append_left _ hS1.mem.1.choose_spec)
    have i2 : @Ne Nat ca I := hoff (ca, _) (List.mem_append_left _ hS1.mem.2.choose_spec)
    have i3 : @Ne Nat lo I := hoff (lo, _) (List.mem_append_right _ (List.mem_cons_self ..))
    have i4 : @Ne Nat (L + 1) I := hoff (L + 1, _) (List.mem_append_right _ (List.mem_cons_of_mem _ (List.mem_cons_self ..)))
    have i5 : ∀ q ∈ ex1 ++ rest, @Ne Nat q.1 I := fun q hq => hoff q (List.mem_append_right _ (List.mem_cons_of_mem _ (List.mem_cons_of_mem _ hq)))
    have i6 : ∀ q ∈ ex1 ++ rest, @Ne Nat q.1 lo := fun q hq => (a5 q hq).1
    have i7 : ∀ q ∈ ex1 ++ rest, @Ne Nat q.1 (L + 1) := fun q hq => (a5 q hq).2
    have i8 : @Ne Nat I (L + 1) := Ne.symm i4
    have i9 : @Ne Nat I lo := Ne.symm i3
    have n6 : @Ne Nat lo (L + 1) := Ne.symm n5
    replace N := drop_ N perm_one
    have hr2 : Off2 sa ca ((I, o) :: (lo, listOf lvs.toArray kk) :: (L + 1, oc) :: (ex1 ++ rest)) := Off2.cons (Ne.symm i1) (Ne.symm i2) (Off2.cons (Ne.symm n3) (Ne.symm n4) (Off2.cons (Ne.symm n1) (Ne.symm n2) a3))
    repeat ((fail_if_success (with_reducible show wpAny _ _ (call (Value.type "enumerate") _) _ _ _)); (first | walk1 | (dsimp only; walk1)))
    rename_i hb1 tb1 gb1 tkb1 da ua Sa ha1 ha2 hSa hb2 tb2 gb2 tkb2 db ub Sb hb3 hb4 hSb hb5 tb5 gb5 tkb5 dc uc Sc hc3 hc4 hSc hh o2 F2 N2 hd2
    have m2 : (L + 1, o2) ∈ (I, o) :: (lo, listOf lvs.toArray kk) :: (L + 1, o2) :: (ex1 ++ rest) := List.mem_cons_of_mem _ (List.mem_cons_of_mem _ (List.mem_cons_self ..))
    refine' src_enumT (keep := []) (vs := flagVals) (fun a _ m => PairIs (Str.ofString "at") (Str.ofString "flag") a m) (JI (fun r => ePair (fV r)) fun rs ys n' => n' = Sc ++ ((I, o) :: (lo, listOf lvs.toArray kk) :: (L + 1, o2) :: (ex1 ++ rest)) ∧ ∃ dn, flag0 = dn ++ rs ∧ StrsAre ys (pickF dc.toNat dn))
      rfl F2 N2 ⟨_, F2.keep 820 _ (flags_at X), rfl, 0, rfl⟩ (.inr ⟨_, flags_at X⟩) (Nat.ne_of_gt (Nat.lt_of_lt_of_le (Heap.lt_size (flags_at X)) F2.above)) (by decide) (takes_pair (fun _ => trivial) rfl rfl (fun _ => rfl) (by decide +kernel) (by decide)) ⟨flag0, rfl, rfl, [], rfl, .nil⟩ (fun _ _ _ _ q hq => (nomatch hq)) ?_ ?_
    · intro IE gE
      refine turns_two (f1 := fun _ => IE + 1) (f2 := fun _ => IE) fun u r ys n' J1 J2 oJ1 oJ2 C oC Dd m₂ h tk E' hD hB F hI1 hI2 hoC N hoff => ?_
      obtain ⟨rfl, dn, hdr, hys⟩ := hD
      obtain ⟨ui, ux, ut⟩ := u
      obtain ⟨⟨ta, hat⟩, hfl⟩ := hB
      dsimp only [fV] at hat hfl
      have hui : ui < 5 := flag0_lt (ui, ux, ut) (by rw [hdr]; simp)
      have hui0 : (0 : Int) ≤ (ui : Int) := by omega
      have hui1 : (ui : Int) ≤ 5 := by omega
      have m3 := sub_app (ex := Sc) _ m2
      simp only [Tst]
      k_steps
      · rename_i hbit
        rw [fbit hc3] at hbit
        exact cend_two (l := []) (by k_asm) (by k_asm) hoC (fun _ h => nomatch h) hoff ⟨rfl, dn ++ [(ui, ux, ut)], by rw [List.append_assoc]; exact hdr, by rw [pickF_snoc, if_pos hbit]; exact strsAre_append hys (.cons _ _ .nil)⟩
      · rename_i hbit
        rw [ne_eq, fbit hc3] at hbit
        exact cend_two (l := []) (by k_asm) (by k_asm) hoC (fun _ h => nomatch h) hoff ⟨rfl, dn ++ [(ui, ux, ut)], by rw [List.append_assoc]; exact hdr, by rw [pickF_snoc, if_neg hbit, List.append_nil]; exact hys⟩
    · intro gE ys n' hJ D h tk F N hoff2
      obtain ⟨us, e, rfl, dn, hdr, hys⟩ := hJ
      have := map_itm_nil e
      subst this
      rw [List.append_nil] at hdr
      rw [← hdr, pickF_all] at hys
      have hyl : ys.length ≤ 5 := by rw [hys.length]; exact flags_len dc.toNat
      repeat ((fail_if_success (with_reducible show wpAny _ _ (call (Value.builtin "list.append") _) _ _ _)); (first | walk1 | (dsimp only; walk1)))
      rename_i D2 h2 hO2 D3 h3 F3 N3 l3
      have hlv : lvs.length ≤ 7 := by rw [dat_len a6, List.length_map]; omega
      have q1 : @LT.lt Nat _ lo D2 := hO2 (lo, listOf lvs.toArray kk) (by simp)
      have q2 : @Ne Nat D2 lo := Nat.ne_of_gt q1
      have q3 : @Ne Nat D3 lo := Nat.ne_of_gt (Nat.lt_trans q1 l3.1)
      have q4 : ∀ q ∈ (L + 1, o2) :: (ex1 ++ rest), @Ne Nat q.1 lo := fun q hq => by
        rcases List.mem_cons.mp hq with rfl | hq
        · exact n5
        · exact i6 q hq
      replace N3 := drop_ N3 (news := (D3, tupO [.int (num + 1 + da) tkb1, .int (uid + 1 + db) tkb2, .ref D2] 0) :: (D2, tupO ys 0) :: (Sc ++ ((I, o) :: (lo, listOf lvs.toArray kk) :: (L + 1, o2) :: (ex1 ++ rest)))) (fun q hq => by
        rcases List.mem_cons.mp hq with rfl | hq
        · exact List.mem_cons_self ..
        rcases List.mem_cons.mp hq with rfl | hq
        · exact List.mem_cons_of_mem _ (List.mem_cons_self ..)
        · exact List.mem_cons_of_mem _ (List.mem_cons_of_mem _ (List.mem_cons_of_mem _ hq)))
      k_steps
      rename_i h5 F5 N5
      rw [List.push_toArray] at N5
      exact lets_end F5 N5 ⟨rfl, rfl, rfl, rfl, trivial⟩ hd2 hSc rfl a1 a2 a3 a4 a5 a6 a7 a8 (by omega) (by omega) hys (by omega) i1 i2 i3 i4 i5 (fun p hp => hO2 p (List.mem_cons_of_mem _ hp)) l3.1

end
section
variable {w : World} {p : Program} {loose : List Str} {mean : ExcName → Option Value} {mg mb : Str → Option Value}
/-! ### the law's own pairs -/
inductive FoundAt (g : Heap) (L na : Addr) (base : List (Addr × Obj)) (ds : List Dat) (s₀ s' : Shared) : Prop
  | mk (h' : Heap) (tk : Nat) (m' : Str → Option Value) (fo : Addr) (vs : List Value) (k : Nat) (ex : List (Addr × Obj)) (z0 : s' = { s₀ with heap := h', toks := tk }) (z1 : Fr g L h' m') (z2 : Keep [(Str.ofString "numbers", .ref na), (Str.ofString "found", .ref fo)] m') (z3 : News g L h' ((fo, listOf vs.toArray k) :: (ex ++ base))) (z4 : Apart ((fo, listOf vs.toArray k) :: ex) base) (z5 : DatAll ex vs ds) : FoundAt g L na base ds s₀ s'
noncomputable def W3 : List Str := [Str.ofString "MIN", Str.ofString "MAX", Str.ofString "ALL"]
noncomputable def condOne (ws : List Str) (x : Str) : Bool := (ws.any fun y => y == x) || (decide (x = Str.ofString "ALL") && decide (ws = []))
noncomputable def valOne (ns : List Int) (x : Str) : Dat := if x = Str.ofString "MIN" then .int (minL ns) else if x = Str.ofString "MAX" then .int (maxL ns) else .tuple ((runsOf (sortL ns)).map pairD)
theorem three_eq {ns : List Int} {ws : List Str} : (W3.filter (condOne ws)).map (fun x => (.tuple [.str x, valOne ns x] : Dat)) = wMin ns ws ++ wMax ns ws ++ wAll ns ws := by
  have e1 : condOne ws (Str.ofString "MIN") = (ws.any fun y => y == Str.ofString "MIN") := by
    unfold condOne; rw [show decide (Str.ofString "MIN" = Str.ofString "ALL") = false by decide +kernel]; simp
  have e2 : condOne ws (Str.ofString "MAX") = (ws.any fun y => y == Str.ofString "MAX") := by
    unfold condOne; rw [show decide (Str.ofString "MAX" = Str.ofString "ALL") = false by decide +kernel]; simp
  have e3 : condOne ws (Str.ofString "ALL") = ((ws.any fun y => y == Str.ofString "ALL") || decide (ws = [])) := by
    unfold condOne; simp
  have v1 : valOne ns (Str.ofString "MIN") = .int (minL ns) := if_pos rfl
  have v2 : valOne ns (Str.ofString "MAX") = .int (maxL ns) := by unfold valOne; rw [if_neg (by decide +kernel), if_pos rfl]
  have v3 : valOne ns (Str.ofString "ALL") = .tuple ((runsOf (sortL ns)).map pairD) := by unfold valOne; rw [if_neg (by decide +kernel), if_neg (by decide +kernel)]
  unfold W3 wMin wMax wAll
  rw [List.filter_cons, List.filter_cons, List.filter_cons, List.filter_nil, e1, e2, e3]
  generalize (ws.any fun y => y == Str.ofString "MIN") = a
  generalize (ws.any fun y => y == Str.ofString "MAX") = b
  generalize hc : (ws.any fun y => y == Str.ofString "ALL") = c
  by_cases hw : ws = []
  · cases a <;> cases b <;> cases c <;> simp [hw, v1, v2, v3]
  · cases a <;> cases b <;> cases c <;> simp [hw, v1, v2, v3]
theorem dat_get {n : List (Addr × Obj)} : ∀ {vs : List Value} {ds : List Dat} {i : Nat} {d : Dat}, DatAll n vs ds → ds[i]? = some d → ∃ v, vs[i]? = some v ∧ DatIn n v d
  | _, _, _, _, .nil, e => by simp at e
  | _, _, 0, _, .cons (v := v) a _, e => ⟨v, rfl, by simp at e; exact e ▸ a⟩
  | _, _, i + 1, d, .cons _ r, e => by
    obtain ⟨v, h1, h2⟩ := dat_get (i := i) (d := d) r (by simpa using e)
    exact ⟨v, by simpa using h1, h2⟩
theorem first_run {n : List (Addr × Obj)} {ns : List Int} {ovs : List Value} (h0 : ns ≠ []) (hd : DatAll n ovs ((runsOf (sortL ns)).map pairD)) : ∃ (pa : Addr) (q : Int × Int) (t1 t2 : Tok) (k : Nat), ovs[0]? = some (.ref pa) ∧ (pa, tupO [.int q.1 t1, .int q.2 t2] k) ∈ n ∧ q.1 = minL ns := by
  obtain ⟨p, r, e, hp⟩ := runs_min h0
  obtain ⟨v, h1, h2⟩ := dat_get (i := 0) (d := pairD p) hd (by rw [e]; rfl)
  obtain ⟨pa, t1, t2, k, rfl, hm⟩ := dat_pair h2
  exact ⟨pa, p, t1, t2, k, h1, hm, hp⟩
theorem last_run {n : List (Addr × Obj)} {ns : List Int} {ovs : List Value} (h0 : ns ≠ []) (hd : DatAll n ovs ((runsOf (sortL ns)).map pairD)) : ∃ (vs : List Value) (pa : Addr) (q : Int × Int) (t1 t2 : Tok) (k : Nat), ovs = vs ++ [.ref pa] ∧ (pa, tupO [.int q.1 t1, .int q.2 t2] k) ∈ n ∧ q.2 = maxL ns := by
  obtain ⟨r, p, e, hp⟩ := runs_max h0
  rw [e] at hd
  obtain ⟨vs, v, rfl, _, hv⟩ := dat_pairs_snoc hd
  obtain ⟨pa, t1, t2, k, rfl, hm⟩ := dat_pair hv
  exact ⟨vs, pa, p, t1, t2, k, rfl, hm, hp⟩
section
variable {prog : Program} {w : World} {A : Around} {E : Value → Shared → Prop} {s : Shared} {h₀ : Heap} {L a b d : Addr} {news n : List (Addr × Obj)} {xs : List Value} {ka kb : Nat} {Q : Value → Shared → Prop} {o : Obj}
theorem eq_nil (N : News h₀ L s.heap news) (ma : (a, listOf xs.toArray ka) ∈ news) (mb : (b, listOf ([] : List Value).toArray kb) ∈ news) (hu : A.units < cLine) (h : Q (.bool xs.isEmpty) s) :
    wpAny (model prog w) A (compareOp .Eq (.ref a) (.ref b)) Q E s := by
  have hl : s.heap.IsList a xs.toArray := ⟨_, (N _ ma).1, rfl, ka, rfl⟩
  have hb : s.heap.IsList b ([] : List Value).toArray := ⟨_, (N _ mb).1, rfl, kb, rfl⟩
  refine cmp_ofEq ?_
  cases xs with
  | nil => exact PySem.SeqAt.RcAt.lists (e := fun _ => true) hl hb rfl hu (fun j h1 _ => absurd h1 (Nat.not_lt_zero _)) _ _ _ _ h
  | cons x xs => exact PySem.SeqAt.RcAt.lists_lengths hl hb (by simp) hu _ _ _ _ h
theorem worth_item {ns : List Int} {x : Str} {v1 v2 v3 : Value} {t : Tok} {value slice : PySem.Expr} (hx : x ∈ W3) (N : News h₀ L s.heap news) (hp : (d, o) ∈ news) (hd : o.IsDictOf (PySem.strKind prog w) [(Str.ofString "MIN", v1), (Str.ofString "MAX", v2), (Str.ofString "ALL", v3)])
    (h1 : DatIn n v1 (.int (minL ns))) (h2 : DatIn n v2 (.int (maxL ns))) (h3 : DatIn n v3 (.tuple ((runsOf (sortL ns)).map pairD))) (h : ∀ v, DatIn n v (valOne ns x) → Q v { s with toks := s.toks + 1 })
    (hs : subscripted slice false (.ref d) (.str x t) = operate [.ref d, .str x t] (getItem (.ref d) (.str x t)) := by with_unfolding_all rfl) (hg : ∀ r, letTemporaryGo value (.ref d) r = pure () := by intro _; with_unfolding_all rfl) :
    wpAny (model prog w) A (subscriptTail value slice (.ref d) (.str x t)) Q E s := by
  have hx' : x = Str.ofString "MIN" ∨ x = Str.ofString "MAX" ∨ x = Str.ofString "ALL" := by simpa [W3] using hx
  rcases hx' with rfl | rfl | rfl
  · exact kda_item N hp hd (PySem.strKind_is prog w _ t) (v := v1) (by unfold valueAt; rw [List.find?_cons_of_pos (by simp)]; rfl) (h v1 (by unfold valOne; rw [if_pos rfl]; exact h1)) hs hg
  · exact kda_item N hp hd (PySem.strKind_is prog w _ t) (v := v2) (by unfold valueAt; rw [List.find?_cons_of_neg (by show ¬ decide (Str.ofString "MIN" = Str.ofString "MAX") = true; decide +kernel), List.find?_cons_of_pos (by simp)]; rfl) (h v2 (by unfold valOne; rw [if_neg (by decide +kernel), if_pos rfl]; exact h2)) hs hg
  · exact kda_item N hp hd (PySem.strKind_is prog w _ t) (v := v3) (by unfold valueAt; rw [List.find?_cons_of_neg (by show ¬ decide (Str.ofString "MIN" = Str.ofString "ALL") = true; decide +kernel), List.find?_cons_of_neg (by show ¬ decide (Str.ofString "MAX" = Str.ofString "ALL") = true; decide +kernel), List.find?_cons_of_pos (by simp)]; rfl) (h v3 (by unfold valOne; rw [if_neg (by decide +kernel), if_neg (by decide +kernel)]; exact h3)) hs hg
end
theorem cond_yes {ws : List Str} {x : Str} (h : (ws.any fun y => y == x) = true) : condOne ws x = true := by unfold condOne; rw [h]; rfl
theorem cond_all {ws : List Str} {x : Str} (h : (x == Str.ofString "ALL") = true) (h2 : ws = []) : condOne ws x = true := by
  unfold condOne; rw [decide_eq_true (by simpa using h), decide_eq_true h2]; simp
theorem cond_no {ws : List Str} {x : Str} (h : (ws.any fun y => y == x) = false) (h2 : (x == Str.ofString "ALL") = false ∨ ws ≠ []) : condOne ws x = false := by
  unfold condOne; rw [h]
  rcases h2 with h2 | h2
  · rw [decide_eq_false (by simpa using h2)]; rfl
  · rw [decide_eq_false h2]; simp
theorem strs_none {vs : List Value} {ws : List Str} (h : StrsAre vs ws) (e : vs.isEmpty = true) : ws = [] := by cases h with | nil => rfl | cons => cases e
theorem strs_some {vs : List Value} {ws : List Str} (h : StrsAre vs ws) (e : vs.isEmpty = false) : ws ≠ [] := by cases h with | nil => cases e | cons => exact List.cons_ne_nil _ _
noncomputable abbrev pairJ (ns : List Int) (ws : List Str) (X1 Z : List (Addr × Obj)) (us ys : List Value) (n' : List (Addr × Obj)) : Prop :=
  ∃ (dn rs : List Str) (exs : List (Addr × Obj)), W3 = dn ++ rs ∧ StrsAre us rs ∧ n' = exs ++ X1 ∧ Apart exs X1 ∧ DatAll (exs ++ Z) ys ((dn.filter (condOne ws)).map fun x => (.tuple [.str x, valOne ns x] : Dat))
theorem pair_turn {h₀ : Heap} {L : Addr} {m : Str → Option Value} {s₁ : Shared} {I C Dd D : Addr} {oI oC : Obj} {m₂ : Str → Option Value} {ys r : List Value} {h' : Heap} {tk : Nat} {X1 Z exs all : List (Addr × Obj)} {ns : List Int} {ws dn rs : List Str} {x : Str} {t : Tok} {v : Value}
    (F : Fr h₀ L h' m) (N : News h₀ L h' ((D, tupO [.str x t, v] 0) :: all)) (hs : ∀ q ∈ (I, oI) :: (C, oC) :: (Dd, PyProof.Rows.LCg.lst ys) :: (exs ++ X1), q ∈ all) (hoC : PyProof.Rows.LCg.NsObj oC m₂) (l1 : @LT.lt Nat _ I D) (l2 : @LT.lt Nat _ C D) (l3 : @LT.lt Nat _ Dd D) (l4 : AllLt D (exs ++ X1)) (hoff : ∀ p ∈ exs ++ X1, (@Ne Nat p.1 I) ∧ (@Ne Nat p.1 C) ∧ (@Ne Nat p.1 Dd))
    (hdr : W3 = dn ++ x :: rs) (hus : StrsAre r rs) (hxa : Apart exs X1) (hc : condOne ws x = true) (hys : DatAll (exs ++ Z) ys ((dn.filter (condOne ws)).map fun x => (.tuple [.str x, valOne ns x] : Dat))) (hv : DatIn Z v (valOne ns x)) :
    CEnd h₀ L m s₁ [(I, oI)] C Dd ys (pairJ ns ws X1 Z r (ys ++ [.ref D])) { s₁ with heap := h', toks := tk } := by
  have l4' : ∀ q ∈ exs ++ X1, @LT.lt Nat _ q.1 D := allLt_mem l4
  refine cend_new (l := [(D, tupO [.str x t, v] 0)]) F (fun q hq => N q ?_) hoC (Apart.cons (fun q hq => ?_) Apart.nil) hoff ⟨dn ++ [x], rs, (D, tupO [.str x t, v] 0) :: exs, by rw [List.append_assoc]; exact hdr, hus, rfl, Apart.cons (fun q hq => Nat.ne_of_gt (l4' q (List.mem_append_right _ hq))) hxa, ?_⟩
  · rcases List.mem_cons.mp hq with rfl | hq
    · exact List.mem_cons_self ..
    · exact List.mem_cons_of_mem _ (hs q hq)
  · simp only [List.mem_cons] at hq
    rcases hq with rfl | rfl | rfl | hq
    · exact Nat.ne_of_gt l1
    · exact Nat.ne_of_gt l2
    · exact Nat.ne_of_gt l3
    · exact Nat.ne_of_gt (l4' q hq)
  · rw [List.filter_append, List.filter_cons_of_pos hc, List.filter_nil, List.map_append]
    exact dat_join (hys.mono fun q hq => List.mem_cons_of_mem _ hq) (.cons (.tuple (List.mem_cons_self ..) (.cons (.str _ _) (.cons (hv.mono fun q hq => List.mem_cons_of_mem _ (List.mem_append_right _ hq)) .nil))) .nil)
theorem found_end {g h' : Heap} {L D a : Addr} {o : Obj} {s : Shared} {tk : Nat} {m' : Str → Option Value} {vs : List Value} {ex all news : List (Addr × Obj)} {ds : List Dat} (F : Fr g L h' m') (N : News g L h' ((D, listOf vs.toArray 0) :: all)) (hs : ∀ q ∈ ex ++ ((a, o) :: news), q ∈ all) (l : ∀ q ∈ all, q.1 < D)
    (hap : Apart ex ((a, o) :: news)) (hd : DatAll ex vs ds) : Back g L s (ListR news fun vs n => DatAll n vs ds) (.ret (.ref D)) { s with heap := h', toks := tk } := by
  refine Back.intro F N (news' := (D, listOf vs.toArray 0) :: (ex ++ news)) (fun q hq => ?_) ⟨D, vs, 0, ex, rfl, rfl, Apart.cons (fun r hr => Nat.ne_of_gt (l r (hs r (by simp [hr])))) (fun q hq r hr => hap q hq r (List.mem_cons_of_mem _ hr)), hd.mono fun q hq => List.mem_append_left _ hq⟩
  rcases List.mem_cons.mp hq with rfl | hq
  · exact List.mem_cons_self ..
  · refine List.mem_cons_of_mem _ (hs q ?_)
    simp only [List.mem_append, List.mem_cons] at hq ⊢
    rcases hq with h | h <;> simp [h]
theorem found_end2 {g h' : Heap} {L fo D D8 lG a : Addr} {o oG : Obj} {s : Shared} {tk k : Nat} {m' : Str → Option Value} {vs : List Value} {ex news : List (Addr × Obj)} {ds : List Dat} {v : Value} {d : Dat} {t : Tok} {x : String} (F : Fr g L h' m')
    (N : News g L h' ((D, listOf (vs ++ [Value.ref D8]).toArray 0) :: (lG, oG) :: (D8, tupO [.str (Str.ofString x) t, v] 0) :: (fo, listOf vs.toArray k) :: (ex ++ ((a, o) :: news)))) (l : ∀ q ∈ (lG, oG) :: (D8, tupO [.str (Str.ofString x) t, v] 0) :: (fo, listOf vs.toArray k) :: (ex ++ ((a, o) :: news)), q.1 < D)
    (l8 : @LT.lt Nat _ fo D8 ∧ AllLt D8 (ex ++ ((a, o) :: news))) (hap : Apart ((fo, listOf vs.toArray k) :: ex) ((a, o) :: news)) (hd : DatAll ex vs ds) (hv : DatIn ex v d) : Back g L s (ListR news fun vs n => DatAll n vs (ds ++ [pairW x d])) (.ret (.ref D)) { s with heap := h', toks := tk } :=
  found_end (a := a) (o := o) (ex := (D8, tupO [.str (Str.ofString x) t, v] 0) :: ex) F N (fun q hq => by
    rcases List.mem_cons.mp hq with rfl | hq
    · simp
    · exact List.mem_cons_of_mem _ (List.mem_cons_of_mem _ (List.mem_cons_of_mem _ hq))) l (fun q hq r hr => by
    rcases List.mem_cons.mp hq with rfl | hq
    · exact Nat.ne_of_gt (allLt_mem l8.2 r (List.mem_append_right _ hr))
    · exact hap q (List.mem_cons_of_mem _ hq) r hr)
    (dat_join (hd.mono fun q hq => List.mem_cons_of_mem _ hq) (.cons (.tuple (List.mem_cons_self ..) (.cons (.str _ t) (.cons (hv.mono fun q hq => List.mem_cons_of_mem _ hq) .nil))) .nil))

end
section
variable {w : World} {p : Program} {loose : List Str} {mean : ExcName → Option Value} {mg mb : Str → Option Value}
local macro_rules | `(tactic| walk_at "setItem ref int ref") => `(tactic| ((with_reducible show wpAny _ _ (setItem (Value.ref _) (Value.int _ _) (Value.ref _)) _ _ _); k_dflt (refine' set_last ?F ?N ?U ?_; (case F => k_asm); (case N => k_asm); (case U => k_upd)); intro h9 F9 N9))
local macro_rules | `(tactic| walk_at "subscriptTail Name UnaryOp ref int") => `(tactic| ((with_reducible show wpAny _ _ (subscriptTail _ _ (Value.ref _) (Value.int _ _)) _ _ _); k_dflt (refine' sub_last ?N ?m ?_; (case N => k_asm); (case m => k_mem))))
local macro_rules | `(tactic| walk_at "call builtin:sorted") => `(tactic| ((with_reducible show wpAny _ _ (call (Value.builtin _) [Value.ref _]) _ _ _); k_dflt (refine' kso_sorted ?F ?N ?l ?i ?p ?_; (case F => k_asm); (case N => k_asm); (case l => exact News.isList (by k_asm) (by k_mem)); (case i => assumption); (case p => omega)); intro D9 v9 n9 c9 h9 F9 N9 l9 i9 e9 p9 o9 b9; have z9 := IntsAre.length i9))
set_option maxRecDepth 100000 in
set_option maxHeartbeats 8000000 in
theorem pairs_ct {news : List (Addr × Obj)} {na wa : Addr} {nvs wvs : List Value} {kn kw : Nat} {ns : List Int} {ws : List Str} (hn : (na, listOf nvs.toArray kn) ∈ news) (hns : IntsAre nvs ns) (hw : (wa, listOf wvs.toArray kw) ∈ news) (hws : StrsAre wvs ws) (hln : ns.length ≤ 40) (hlw : ws.length ≤ 40) :
    Ct w p loose mean mg mb 867 [.ref na, .ref wa] news 3 (ListR news fun vs n => DatAll n vs (wantD ns ws)) := by
  have hln' : nvs.length ≤ 40 := by rw [hns.length]; exact hln
  have hlw' : wvs.length ≤ 40 := by rw [hws.length]; exact hlw
  k_data
  refine' ct_of_bodyC (binds := [(Str.ofString "numbers", .ref na), (Str.ofString "wants", .ref wa)]) ?o9 ?cd9 ?b9 ?l9 ?nd9 ?h9 ?c29 ?c39 ?c49
  case o9 => k_is
  case cd9 => k_is
  case b9 => rfl
  case l9 => rfl
  case nd9 => decide +kernel
  case c29 => rfl
  case c39 => rfl
  case c49 => rfl
  intro dp un gd outer A₀ base g L s cells B F X N T Y hlt hd hu
  k_cells Y
  simp only [List.cons_append, List.nil_append] at N
  repeat ((fail_if_success (with_reducible show wpAny _ _ (pyIter _) _ _ _)); (first | walk1 | (dsimp only; walk1)))
  rename_i o1 o2 dd1 dd2 lo h1 l1 fo h2 l2 D1 h3 l3 h4 h5 h6 F6 tk6 D5 v5 n5 c5 h7 F7 N7 l7 i7 e7 p7 so7 b7 z7
  have e1 : o1.data = .cell none := dd1
  have e2 : o2.data = .cell (some (.ref wa)) := dd2
  clear dd1 dd2 b7
  have hnb : ∀ q ∈ (D5, listOf v5.toArray c5) :: (fo, listOf ([] : List Value).toArray 0) :: (L + 1 + 1, o1) :: (L + 1, o2) :: news, @Ne Nat q.1 lo := fun q hq => by
    simp only [List.mem_cons] at hq
    rcases hq with rfl | rfl | rfl | rfl | hq
    · exact Nat.ne_of_gt (l7 (lo, listOf ([] : List Value).toArray 0) (by simp))
    · exact Nat.ne_of_gt l2.1
    · exact Nat.ne_of_lt l1.1
    · exact Nat.ne_of_lt l1.2.1
    · exact Nat.ne_of_lt (allLt_mem l1.2.2 q hq)
  have N8 : News g L h7 ((lo, listOf ([] : List Value).toArray 0) :: ((D5, listOf v5.toArray c5) :: (fo, listOf ([] : List Value).toArray 0) :: (L + 1 + 1, o1) :: (L + 1, o2) :: news)) := drop_ N7 fun q hq => by
    simp only [List.mem_cons] at hq ⊢
    rcases hq with h | h | h | h | h | h <;> simp [h]
  clear N7 F6
  generalize hnbs : (D5, listOf v5.toArray c5) :: (fo, listOf ([] : List Value).toArray 0) :: (L + 1 + 1, o1) :: (L + 1, o2) :: news = nb at hnb N8
  have mD5 : (D5, listOf v5.toArray c5) ∈ nb := hnbs ▸ List.mem_cons_self ..
  have hl5 : v5.length ≤ 40 := by rw [z7, e7]; exact hln
  refine' list_inv (l := [(Str.ofString "numbers", .ref na), (Str.ofString "some", .ref lo), (Str.ofString "found", .ref fo)]) (D := RunInv lo nb n5) rfl F7 N8 (List.mem_cons_of_mem _ mD5) ⟨rfl, rfl, rfl, trivial⟩ ⟨[], [], 0, [], n5, i7, rfl, Apart.nil, hnb, .nil, rfl, by simp only [List.length_nil]; omega⟩ ?_ ?_ ?_
  · rintro r n ⟨out, ovs, k, ex, ns2, _, rfl, _⟩
    exact List.mem_cons_of_mem _ (sub_app _ mD5)
  · clear F7 N8
    intro m n h tk hD F N
    obtain ⟨out, ovs, k', ex, ns2, hi2, rfl, hap, hof, hd', hr, hln⟩ := hD
    cases hi2
    have en := sort_eq p7 so7
    subst en
    have hr' : runsOf (sortL ns) = out := hr
    subst hr'
    simp only [mOn] at F
    change Fr g L _ _ at F
    change News g L _ _ at N
    refine stmt_cut (FoundAt g L na ((L + 1, o2) :: news) (if ns = [] then [] else wMin ns ws ++ wMax ns ws ++ wAll ns ws) s) ?_ ?_
    · have mna : (na, listOf nvs.toArray kn) ∈ (lo, listOf ovs.toArray k') :: (ex ++ nb) := List.mem_cons_of_mem _ (List.mem_append_right _ (by rw [← hnbs]; simp [hn]))
      repeat ((fail_if_success (with_reducible show wpAny _ _ (compareOp CmpOp.NotEq _ _) _ _ _)); (first | walk1 | (dsimp only; walk1)))
      refine' ne_nil ?N (List.mem_cons_of_mem _ mna) (List.mem_cons_self ..) (by ke_room) ?_
      case N => k_asm
      by_cases h0 : ns = []
      · subst h0
        cases hns
        k_steps
        rw [if_pos rfl]
        refine ⟨_, _, _, fo, [], 0, [], rfl, (by k_asm), ⟨rfl, rfl, trivial⟩, (by refine drop_ (by k_asm) ?_; intro q hq; rw [← hnbs]; simp only [List.nil_append, List.mem_cons] at hq; rcases hq with h | h | h <;> simp [h]), Apart.cons (fun r hr => ?_) Apart.nil, .nil⟩
        rcases List.mem_cons.mp hr with rfl | hr
        · exact Nat.ne_of_gt l2.2.2.1
        · exact Nat.ne_of_gt (allLt_mem l2.2.2.2 r hr)
      · rw [show (!nvs.isEmpty) = true by cases hns with | nil => exact absurd rfl h0 | cons => rfl]
        obtain ⟨fa, fq, ft1, ft2, fk, hf0, hfm, hfq⟩ := first_run h0 hd'
        obtain ⟨gvs, ga, gq, gt1, gt2, gk, rfl, hgm, hgq⟩ := last_run h0 hd'
        repeat ((fail_if_success (with_reducible show wpAny _ _ (subscriptTail _ _ _ _) _ _ _)); (first | walk1 | (dsimp only; walk1)))
        rename_i lG h8 F8 l8 N8 dA h9 oA F9 N9 lo9 hd9 l9
        clear N8 F8
        refine' kim_list N9 (List.mem_cons_of_mem _ (List.mem_cons_of_mem _ (List.mem_cons_self ..))) rfl rfl (by decide) (by decide) hf0 ?_
        have mf := List.mem_cons_of_mem (dA, oA) (List.mem_cons_of_mem (lG, listOf ([] : List Value).toArray 0) (List.mem_cons_of_mem (lo, listOf (gvs ++ [Value.ref ga]).toArray k') (List.mem_append_left nb hfm)))
        have mg' := List.mem_cons_of_mem (dA, oA) (List.mem_cons_of_mem (lG, listOf ([] : List Value).toArray 0) (List.mem_cons_of_mem (lo, listOf (gvs ++ [Value.ref ga]).toArray k') (List.mem_append_left nb hgm)))
        repeat ((fail_if_success (with_reducible show wpAny _ _ (call (Value.type "tuple") _) _ _ _)); (first | walk1 | (dsimp only; walk1)))
        refine' tup_of F9 N9 (List.mem_cons_of_mem _ (List.mem_cons_of_mem _ (List.mem_cons_self ..))) (by simp only [List.length_nil] at hln; omega) ?_
        intro T9 h10 F10 N10 l10
        have lA : @LT.lt Nat _ (L + 1 + 1) dA := allLt_mem l9.2.2 (L + 1 + 1, o1) (List.mem_append_right _ (by rw [← hnbs]; simp))
        have hcap : ∀ q ∈ ex, @Ne Nat q.1 (L + 1 + 1) := fun q hq => hap q hq (L + 1 + 1, o1) (by rw [← hnbs]; simp)
        obtain ⟨Y, hY, mT, mex, mo2, mns, y1, y2, hYa⟩ : ∃ Y : List (Addr × Obj), (∀ q ∈ Y, q ∈ (T9, tupO (gvs ++ [Value.ref ga]) 0) :: (ex ++ nb)) ∧ (T9, tupO (gvs ++ [Value.ref ga]) 0) ∈ Y ∧ (∀ q ∈ ex, q ∈ Y) ∧ (L + 1, o2) ∈ Y ∧ (∀ q ∈ news, q ∈ Y) ∧ (∀ q ∈ Y, q.1 ≠ L + 1 + 1) ∧ (∀ q ∈ Y, q.1 ≠ dA) ∧ ∀ q ∈ Y, q = (T9, tupO (gvs ++ [Value.ref ga]) 0) ∨ q ∈ ex ∨ q ∈ (L + 1, o2) :: news := by
          have hsub : ∀ q ∈ (T9, tupO (gvs ++ [Value.ref ga]) 0) :: (ex ++ ((L + 1, o2) :: news)), q = (T9, tupO (gvs ++ [Value.ref ga]) 0) ∨ q ∈ ex ∨ q ∈ (L + 1, o2) :: news := fun q hq => by simpa using hq
          have hTA : @LT.lt Nat _ dA T9 := l10 (dA, oA) (List.mem_cons_self ..)
          refine ⟨(T9, tupO (gvs ++ [Value.ref ga]) 0) :: (ex ++ ((L + 1, o2) :: news)), fun q hq => ?_, List.mem_cons_self .., fun q hq => by simp [hq], by simp, fun q hq => by simp [hq], fun q hq => ?_, fun q hq => ?_, hsub⟩
          · rcases hsub q hq with rfl | h | h
            · exact List.mem_cons_self ..
            · simp [h]
            · rw [← hnbs]; simp only [List.mem_cons, List.mem_append] at h ⊢; rcases h with h | h <;> simp [h]
          · rcases hsub q hq with rfl | h | h
            · exact Nat.ne_of_gt (Nat.lt_trans lA hTA)
            · exact hcap q h
            · rcases List.mem_cons.mp h with rfl | h
              · show @Ne Nat _ _; omega
              · exact Nat.ne_of_lt (Nat.lt_succ_of_lt (Nat.lt_succ_of_lt (hlt q h)))
          · rcases hsub q hq with rfl | h | h
            · exact Nat.ne_of_gt hTA
            · exact Nat.ne_of_lt (allLt_mem l9.2.2 q (List.mem_append_left _ h))
            · exact Nat.ne_of_lt (allLt_mem l9.2.2 q (List.mem_append_right _ (by rw [← hnbs]; simp only [List.mem_cons] at h ⊢; rcases h with h | h <;> simp [h])))
        have nA : @Ne Nat dA (L + 1 + 1) := Nat.ne_of_gt lA
        have nA' : @Ne Nat (L + 1 + 1) dA := Nat.ne_of_lt lA
        have N11 : News g L h10 ((dA, oA) :: (L + 1 + 1, o1) :: Y) := drop_ N10 fun q hq => by
          rcases List.mem_cons.mp hq with rfl | hq
          · simp
          rcases List.mem_cons.mp hq with rfl | hq
          · rw [← hnbs]; simp
          · rcases List.mem_cons.mp (hY q hq) with rfl | h
            · simp
            · simp only [List.mem_cons]; exact .inr (.inr (.inr (.inr h)))
        clear N10 N9 F9
        repeat ((fail_if_success (with_reducible show wpAny _ _ (pyIter _) _ _ _)); (first | walk1 | (dsimp only; walk1)))
        rename_i h11 o7 hd7 h12 oC7 dC7 D7 h13 F13 N13 l13
        have mdA : (dA, o7) ∈ (D7, tupO [.str (Str.ofString "MIN") tk, .str (Str.ofString "MAX") (tk + 1), .str (Str.ofString "ALL") (tk + 1 + 1)] 0) :: (dA, o7) :: (L + 1 + 1, oC7) :: Y := by simp
        have mW : (L + 1 + 1, oC7) ∈ (D7, tupO [.str (Str.ofString "MIN") tk, .str (Str.ofString "MAX") (tk + 1), .str (Str.ofString "ALL") (tk + 1 + 1)] 0) :: (dA, o7) :: (L + 1 + 1, oC7) :: Y := by simp
        have mY : ∀ q ∈ Y, q ∈ (D7, tupO [.str (Str.ofString "MIN") tk, .str (Str.ofString "MAX") (tk + 1), .str (Str.ofString "ALL") (tk + 1 + 1)] 0) :: (dA, o7) :: (L + 1 + 1, oC7) :: Y := fun q hq => by simp [hq]
        have mD7 : (D7, tupO [.str (Str.ofString "MIN") tk, .str (Str.ofString "MAX") (tk + 1), .str (Str.ofString "ALL") (tk + 1 + 1)] 0) ∈ (D7, tupO [.str (Str.ofString "MIN") tk, .str (Str.ofString "MAX") (tk + 1), .str (Str.ofString "ALL") (tk + 1 + 1)] 0) :: (dA, o7) :: (L + 1 + 1, oC7) :: Y := List.mem_cons_self ..
        replace N13 : News g L h13 ((D7, tupO [.str (Str.ofString "MIN") tk, .str (Str.ofString "MAX") (tk + 1), .str (Str.ofString "ALL") (tk + 1 + 1)] 0) :: (dA, o7) :: (L + 1 + 1, oC7) :: Y) := N13
        have hw3 : StrsAre [.str (Str.ofString "MIN") tk, .str (Str.ofString "MAX") (tk + 1), .str (Str.ofString "ALL") (tk + 1 + 1)] W3 := .cons _ _ (.cons _ _ (.cons _ _ .nil))
        have hv3 : [Value.str (Str.ofString "MIN") tk, .str (Str.ofString "MAX") (tk + 1), .str (Str.ofString "ALL") (tk + 1 + 1)].length = 3 := rfl
        generalize [Value.str (Str.ofString "MIN") tk, .str (Str.ofString "MAX") (tk + 1), .str (Str.ofString "ALL") (tk + 1 + 1)] = w3 at N13 mdA mW mY mD7 hw3 hv3
        have mo2' := mY _ mo2
        have mwa' := mY _ (mns _ hw)
        generalize hX1 : (D7, tupO w3 0) :: (dA, o7) :: (L + 1 + 1, oC7) :: Y = X1 at N13 mdA mW mY mD7 mo2' mwa'
        refine' src_tup (vs := w3) (k := 0) (BN (Str.ofString "word")) (JV (pairJ ns ws X1 ((T9, tupO (gvs ++ [Value.ref ga]) 0) :: ex)))
          rfl F13 N13 mD7 (by rw [hv3]; decide) (takes_name rfl (by decide +kernel)) ⟨w3, rfl, [], W3, [], rfl, hw3, rfl, Apart.nil, .nil⟩ ?_ ?_ ?_
        · rintro r ys n ⟨us, _, dn, rs, exs, _, _, rfl, _⟩
          exact sub_app _ mD7
        · intro g0
          refine turns_val fun v r ys n I oI C oC Dd m₂ h tk E' hD hB F hI hoC N hne hoff => ?_
          obtain ⟨dn, rs, exs, hdr, hus, rfl, hxa, hys⟩ := hD
          have hx := hB v rfl
          cases hus with | @cons x tx _ rs' hus' =>
          have hxW : x ∈ W3 := by rw [hdr]; simp
          have k1 := sub_app (ex := exs) _ mo2'
          have k2 := sub_app (ex := exs) _ mwa'
          have k3 := sub_app (ex := exs) _ mdA
          have k4 := sub_app (ex := exs) _ mW
          simp only [Tst]
          repeat ((fail_if_success (with_reducible show wpAny _ _ (compareOp CmpOp.In _ _) _ _ _)); (first | walk1 | (dsimp only; walk1)))
          refine in_list_strs (News.isList (by k_asm) (List.mem_cons_of_mem _ (List.mem_cons_of_mem _ (List.mem_cons_of_mem _ k2)))) hws ?_
          cases hb : (ws.any fun y => y == x)
          · repeat' ((fail_if_success (with_reducible show wpAny _ _ (compareOp CmpOp.Eq (Value.ref _) _) _ _ _)); (fail_if_success (with_reducible show CEnd _ _ _ _ _ _ _ _ _ _)); (first | walk1 | (dsimp only; walk1)))
            · rename_i hxA lG2 h14 F14 N14 l14
              refine' eq_nil N14 (List.mem_cons_of_mem _ (List.mem_cons_of_mem _ (List.mem_cons_of_mem _ (List.mem_cons_of_mem _ k2)))) (List.mem_cons_self ..) (by ke_room) ?_
              cases hwe : wvs.isEmpty
              · k_steps
                exact cend_new (l := []) F14 (drop_ N14 fun q hq => List.mem_cons_of_mem _ hq) hoC (fun _ h => nomatch h) hoff ⟨dn ++ [x], rs', exs, by rw [List.append_assoc]; exact hdr, hus', rfl, hxa, by rw [List.filter_append, List.filter_cons_of_neg (by rw [cond_no hb (.inr (strs_some hws hwe))]; decide), List.filter_nil, List.append_nil]; exact hys⟩
              · repeat ((fail_if_success (with_reducible show wpAny _ _ (subscriptTail _ _ _ _) _ _ _)); (first | walk1 | (dsimp only; walk1)))
                refine' worth_item hxW (n := (T9, tupO (gvs ++ [Value.ref ga]) 0) :: ex) N14 (List.mem_cons_of_mem _ (List.mem_cons_of_mem _ (List.mem_cons_of_mem _ (List.mem_cons_of_mem _ k3)))) hd7 (hfq ▸ .int _ _) (hgq ▸ .int _ _) (.tuple (List.mem_cons_self ..) (hd'.mono fun q hq => List.mem_cons_of_mem _ hq)) ?_
                intro v hv
                k_steps
                rename_i D15 h15 F15 N15 l15
                exact pair_turn (x := x) F15 N15 (fun q hq => List.mem_cons_of_mem _ hq) hoC l15.2.1 l15.2.2.1 l15.2.2.2.1 l15.2.2.2.2 hoff hdr hus' hxa (cond_all hxA (strs_none hws hwe)) hys hv
            · exact cend_new (l := []) (by k_asm) (by k_asm) hoC (fun _ h => nomatch h) hoff ⟨dn ++ [x], rs', exs, by rw [List.append_assoc]; exact hdr, hus', rfl, hxa, by rw [List.filter_append, List.filter_cons_of_neg (by rw [cond_no hb (.inl (by assumption))]; decide), List.filter_nil, List.append_nil]; exact hys⟩
          · repeat ((fail_if_success (with_reducible show wpAny _ _ (subscriptTail _ _ _ _) _ _ _)); (first | walk1 | (dsimp only; walk1)))
            refine' worth_item hxW (n := (T9, tupO (gvs ++ [Value.ref ga]) 0) :: ex) N (List.mem_cons_of_mem _ (List.mem_cons_of_mem _ (List.mem_cons_of_mem _ k3))) hd7 (hfq ▸ .int _ _) (hgq ▸ .int _ _) (.tuple (List.mem_cons_self ..) (hd'.mono fun q hq => List.mem_cons_of_mem _ hq)) ?_
            intro v hv
            k_steps
            rename_i D15 h15 F15 N15 l15
            exact pair_turn (x := x) F15 N15 (fun _ h => h) hoC l15.1 l15.2.1 l15.2.2.1 l15.2.2.2 hoff hdr hus' hxa (cond_yes hb) hys hv
        · intro g1 ys n hJ D h tk F N hoff
          obtain ⟨us, e, dn, rs, exs, hdr, hus, rfl, hxa, hys⟩ := hJ
          have := map_val_nil e
          subst this
          cases hus
          rw [List.append_nil] at hdr
          subst hdr
          k_steps
          rw [if_neg h0, ← three_eq]
          have hlT : ∀ r ∈ (L + 1, o2) :: news, @Ne Nat T9 r.1 := fun r hr => Nat.ne_of_gt (l10 r (List.mem_cons_of_mem _ (List.mem_cons_of_mem _ (List.mem_cons_of_mem _ (List.mem_append_right _ (by rw [← hnbs]; simp only [List.mem_cons] at hr ⊢; rcases hr with h | h <;> simp [h]))))))
          have hbase : ∀ r ∈ (L + 1, o2) :: news, r ∈ X1 := fun r hr => by
            rcases List.mem_cons.mp hr with rfl | hr
            · exact mo2'
            · exact mY _ (mns _ hr)
          refine ⟨_, _, _, D, ys, ys.length, exs ++ ((T9, tupO (gvs ++ [Value.ref ga]) 0) :: ex), rfl, F, ⟨rfl, rfl, trivial⟩, drop_ N fun q hq => ?_, Apart.cons (fun r hr => Ne.symm (hoff r (List.mem_append_right _ (hbase r hr)))) ((hxa.sub hbase).app (Apart.cons hlT (hap.sub fun r hr => by rw [← hnbs]; simp only [List.mem_cons] at hr ⊢; rcases hr with h | h <;> simp [h]))), hys⟩
          simp only [List.mem_cons, List.mem_append] at hq
          rcases hq with rfl | (h | rfl | h) | h
          · exact List.mem_cons_self ..
          · exact List.mem_cons_of_mem _ (List.mem_append_left _ h)
          · exact List.mem_cons_of_mem _ (List.mem_append_right _ (mY _ mT))
          · exact List.mem_cons_of_mem _ (List.mem_append_right _ (mY _ (mex _ h)))
          · exact List.mem_cons_of_mem _ (List.mem_append_right _ (hbase q (List.mem_cons.mpr h)))
    · rintro _ ⟨h, tk, m, fo', vs, k, ex, rfl, F, km, N, hap, hd'⟩
      replace F := fr_on F km
      simp only [mOn] at F
      have hvl : vs.length ≤ 3 := by rw [dat_len hd']; exact wThree_len
      have mo2 : (L + 1, o2) ∈ (fo', listOf vs.toArray k) :: (ex ++ (L + 1, o2) :: news) := by simp
      repeat ((fail_if_success (with_reducible show wpAny _ _ (compareOp CmpOp.In _ _) _ _ _)); (first | walk1 | (dsimp only; walk1)))
      refine in_list_strs (News.isList (by k_asm) (List.mem_cons_of_mem _ (List.mem_append_right _ (List.mem_cons_of_mem _ hw)))) hws ?_
      cases hb : (ws.any fun y => y == Str.ofString "COUNT")
      all_goals repeat ((fail_if_success (with_reducible show wpAny _ _ (binaryOp _ _ _) _ _ _)); (fail_if_success (with_reducible show wpAny _ _ (call _ _) _ _ _)); (first | walk1 | (dsimp only; walk1)))
      · rename_i lG h8 F8 N8 l8
        refine' kmk_add_lit F8 N8 (News.isList N8 (List.mem_cons_of_mem _ (List.mem_cons_self ..))) (News.isList N8 (List.mem_cons_self ..)) (List.append_nil vs) ?_ ?_
        · intro D9 h9 F9 N9 l9
          rw [count_no hb]
          exact found_end (ex := ex) (o := o2) F9 N9 (fun q hq => List.mem_cons_of_mem _ (List.mem_cons_of_mem _ hq)) l9 (fun q hq => hap q (List.mem_cons_of_mem _ hq)) hd'
        · show vs.length + 0 ≤ sizeLine
          exact Nat.le_trans (Nat.add_le_add_right hvl 0) (by decide)
      · refine' len_list N (List.mem_cons_of_mem _ (List.mem_append_right _ (List.mem_cons_of_mem _ hn))) (by omega) ?_
        intro t9 tk9
        repeat ((fail_if_success (with_reducible show wpAny _ _ (binaryOp _ _ _) _ _ _)); (first | walk1 | (dsimp only; walk1)))
        rename_i D8 h8 l8 lG h9 F9 N9 l9
        refine' kmk_add_lit (zs := vs ++ [Value.ref D8]) F9 N9 (News.isList N9 (List.mem_cons_of_mem _ (List.mem_cons_of_mem _ (List.mem_cons_self ..)))) (News.isList N9 (List.mem_cons_self ..)) rfl ?_ ?_
        · intro D9 h9 F9 N9 l9
          rw [count_yes hb]
          exact found_end2 (o := o2) F9 N9 l9 l8 hap hd' (by rw [hns.length]; exact .int _ _)
        · exact Nat.le_trans (Nat.add_le_add_right hvl 1) (by decide)
  · clear F7 N8
    intro I v r m n h tk o hoff hD ho F N
    obtain ⟨out, ovs, k', ex, ns2, hi2, rfl, hap, hof, hd', hr, hln⟩ := hD
    cases hi2 with | @cons num tn _ ns3 hi3 =>
    simp only [mOn] at F
    change Fr g L _ _ at F
    change News g L _ _ at N
    have hnI : @Ne Nat lo I := hoff _ (List.mem_cons_self ..)
    rcases List.eq_nil_or_concat out with rfl | ⟨out', q, rfl⟩
    · obtain rfl := dat_nil hd'
      repeat ((fail_if_success (with_reducible show wpAny _ _ (compareOp CmpOp.NotEq _ _) _ _ _)); (first | walk1 | (dsimp only; walk1)))
      refine' ne_nil ?N (xs := []) (List.mem_cons_of_mem _ (List.mem_cons_of_mem _ (List.mem_cons_self ..))) (List.mem_cons_self ..) (by ke_room) ?_
      case N => k_asm
      k_steps
      rename_i h8 tk8 G h9 lG tk9 D9 h10 l9 h11 F9 N9
      exact run_end F9 N9 (List.mem_cons_of_mem _ (List.mem_cons_of_mem _ (List.mem_cons_self ..))) (ovs' := [.ref D9]) (k2 := k' + 1) (List.mem_cons_of_mem _ (List.mem_cons_of_mem _ (List.mem_cons_of_mem _ (List.mem_cons_self ..)))) (List.mem_cons_self ..) (fun q hq => List.mem_cons_of_mem _ (List.mem_cons_of_mem _ (List.mem_cons_of_mem _ (List.mem_cons_of_mem _ hq)))) l9.2 hnI (fun q hq => hoff q (List.mem_cons_of_mem _ hq)) hap hof
        (out2 := [(num, num)]) (.cons (pair_in (List.mem_cons_self ..)) .nil) hr (by simp only [List.length_cons, List.length_nil] at hln ⊢; omega) hi3 mD5 ⟨rfl, rfl, rfl, trivial⟩
    · rw [List.concat_eq_append] at hd' hr
      obtain ⟨vs, v, rfl, hd1, hv⟩ := dat_pairs_snoc hd'
      obtain ⟨pa, tp1, tp2, pk, rfl, hpm⟩ := dat_pair hv
      have hpm2 : (pa, tupO [.int q.1 tp1, .int q.2 tp2] pk) ∈ ex ++ nb := List.mem_append_left _ hpm
      have hofa : ∀ q ∈ ex ++ nb, q.1 ≠ lo := hof
      repeat ((fail_if_success (with_reducible show wpAny _ _ (compareOp CmpOp.NotEq _ _) _ _ _)); (first | walk1 | (dsimp only; walk1)))
      refine' ne_nil_snoc ?N (List.mem_cons_of_mem _ (List.mem_cons_of_mem _ (List.mem_cons_self ..))) (List.mem_cons_self ..) (by ke_room) ?_
      case N => k_asm
      k_steps
      · rename_i h8 tk8 G h9 lG hle tkx D9 h10 Fx Nx l9 h11 F9 N9
        exact run_end F9 N9 (List.mem_cons_of_mem _ (List.mem_cons_of_mem _ (List.mem_cons_self ..))) (ovs' := vs ++ [.ref D9]) (k2 := k') (List.mem_cons_of_mem _ (List.mem_cons_of_mem _ (List.mem_cons_of_mem _ (List.mem_cons_self ..)))) (List.mem_cons_self ..) (fun q hq => List.mem_cons_of_mem _ (List.mem_cons_of_mem _ (List.mem_cons_of_mem _ (List.mem_cons_of_mem _ hq)))) l9.2 hnI (fun q hq => hoff q (List.mem_cons_of_mem _ hq)) hap hof
          (out2 := out' ++ [(q.1, num)]) (by rw [List.map_append]; exact dat_app (hd1.mono (fun q hq => List.mem_cons_of_mem _ hq)) (.cons (pair_in (List.mem_cons_self ..)) .nil)) (by rw [hr, List.foldl_cons, stepR_in hle]) (by simp only [List.length_append, List.length_cons, List.length_nil] at hln ⊢; omega) hi3 mD5 ⟨rfl, rfl, rfl, trivial⟩
      · rename_i h8 tk8 G h9 lG hgt tkx D9 h10 l9 h11 F9 N9
        simp only [List.push_toArray] at N9
        exact run_end F9 N9 (List.mem_cons_of_mem _ (List.mem_cons_of_mem _ (List.mem_cons_self ..))) (ovs' := vs ++ [.ref pa] ++ [.ref D9]) (k2 := k' + 1) (List.mem_cons_of_mem _ (List.mem_cons_of_mem _ (List.mem_cons_of_mem _ (List.mem_cons_self ..)))) (List.mem_cons_self ..) (fun q hq => List.mem_cons_of_mem _ (List.mem_cons_of_mem _ (List.mem_cons_of_mem _ (List.mem_cons_of_mem _ hq)))) l9.2 hnI (fun q hq => hoff q (List.mem_cons_of_mem _ hq)) hap hof
          (out2 := out' ++ [q] ++ [(num, num)]) (by rw [List.map_append]; exact dat_app (hd'.mono (fun q hq => List.mem_cons_of_mem _ hq)) (.cons (pair_in (List.mem_cons_self ..)) .nil)) (by rw [hr, List.foldl_cons, stepR_out hgt]) (by simp only [List.length_append, List.length_cons, List.length_nil] at hln ⊢; omega) hi3 mD5 ⟨rfl, rfl, rfl, trivial⟩

end
end
end
section
variable {w : World} {p : Program} {loose : List Str} {mean : ExcName → Option Value} {mg mb : Str → Option Value}
local macro_rules | `(tactic| k_mem) => `(tactic| ((repeat (refine List.mem_cons_of_mem _ ?_)); refine List.mem_append_right _ ?_; (repeat (refine List.mem_cons_of_mem _ ?_)); with_reducible assumption))
local macro_rules | `(tactic| walk_at "compareOp NotEq ref ref") => `(tactic| ((with_reducible show wpAny _ _ (compareOp CmpOp.NotEq (Value.ref _) (Value.ref _)) _ _ _); k_dflt (refine' ne_nil ?N ?a ?b ?u ?_; (case N => k_asm); (case b => k_mem); (case a => k_mem); (case u => ke_room))))
local macro_rules | `(tactic| walk_at "compareOp In str ref") => `(tactic| ((with_reducible show wpAny _ _ (compareOp CmpOp.In (Value.str _ _) (Value.ref _)) _ _ _); refine' in_list_strs ?T ?S ?_; (case T => exact News.isList (by k_asm) (by k_mem)); (case S => with_reducible assumption)))
local macro_rules | `(tactic| walk_at "call builtin:len") => `(tactic| ((with_reducible show wpAny _ _ (call (Value.builtin _) [Value.ref _]) _ _ _); k_dflt (refine' len_list ?N ?m ?l ?_; (case N => k_asm); (case m => k_mem); (case l => omega)); intro t9 tk9))
local macro_rules | `(tactic| walk_at "call builtin:min") => `(tactic| ((with_reducible show wpAny _ _ (call (Value.builtin _) [Value.ref _]) _ _ _); k_dflt (refine' kso_min ?F ?N ?l ?i ?p ?h ?_; (case F => k_asm); (case N => k_asm); (case l => exact News.isList (by k_asm) (by k_mem)); (case i => assumption); (case p => assumption); (case h => rfl)); intro h9 M9 t9 tk9 F9 N9 hM9 hL9))
local macro_rules | `(tactic| walk_at "call builtin:max") => `(tactic| ((with_reducible show wpAny _ _ (call (Value.builtin _) [Value.ref _]) _ _ _); k_dflt (refine' kso_max ?F ?N ?l ?i ?p ?h ?_; (case F => k_asm); (case N => k_asm); (case l => exact News.isList (by k_asm) (by k_mem)); (case i => assumption); (case p => assumption); (case h => rfl)); intro h9 M9 t9 tk9 F9 N9 hM9 hL9))
local macro_rules | `(tactic| walk_at "call builtin:sorted") => `(tactic| ((with_reducible show wpAny _ _ (call (Value.builtin _) [Value.ref _]) _ _ _); k_dflt (refine' kso_sorted ?F ?N ?l ?i ?p ?_; (case F => k_asm); (case N => k_asm); (case l => exact News.isList (by k_asm) (by k_mem)); (case i => assumption); (case p => omega)); intro D9 v9 n9 c9 h9 F9 N9 l9 i9 e9 p9 o9 b9; have z9 := IntsAre.length i9))
local macro_rules | `(tactic| walk_at "call ref") => `(tactic| ((with_reducible show wpAny _ _ (call (Value.ref 602) _) _ _ _); refine' ct_useU u_ranges (ranges_ct ?m ?i ?z) ?_; (case m => k_dflt k_mem); (case i => k_dflt assumption); (case z => k_dflt omega); (intro h9 tk9 F9 T9 tvs9 k9 ex9 hp9 hd9 N9); (try dsimp only)))
set_option maxRecDepth 100000 in
set_option maxHeartbeats 8000000 in
theorem esearch_ct {news : List (Addr × Obj)} {na wa : Addr} {nvs wvs : List Value} {kn kw : Nat} {ns : List Int} {ws : List Str} (hn : (na, listOf nvs.toArray kn) ∈ news) (hns : IntsAre nvs ns) (hw : (wa, listOf wvs.toArray kw) ∈ news) (hws : StrsAre wvs ws) (hln : ns.length ≤ 40) (hlw : ws.length ≤ 40) :
    Ct w p loose mean mg mb 814 [.ref na, .ref wa] news 3 (ListR news fun vs n => DatAll n vs (wantD ns ws)) := by
  have hln' : nvs.length ≤ 40 := by rw [hns.length]; exact hln
  have hlw' : wvs.length ≤ 40 := by rw [hws.length]; exact hlw
  k_data
  refine' ct_of_body (binds := [(Str.ofString "numbers", .ref na), (Str.ofString "wants", .ref wa)]) ?o ?cd ?b ?l ?h ?c2 ?c3 ?c4 ?c5
  case o => k_is
  case cd => k_is
  case b => rfl
  case l => exact locs rfl
  case c2 => rfl
  case c3 => rfl
  case c4 => rfl
  case c5 => decide
  intro dp un gd outer A₀ base g L s B F X N T hd hu
  simp only [List.reverse_cons, List.reverse_nil, List.nil_append, List.cons_append, mOf] at F
  k_fold
  repeat ((fail_if_success (with_reducible show wpAny _ _ (execs (PySem.Stmt.If _ _ _ _ :: _) _) _ _ _)); (first | walk1 | (dsimp only; walk1)))
  rename_i lo h1 l1 h2 F N
  have hlo : ∀ q ∈ news, @Ne Nat q.1 lo := fun q hq => Nat.ne_of_lt (l1 q hq)
  refine stmt_cut (PairsAt g L [(Str.ofString "numbers", .ref na), (Str.ofString "wants", .ref wa), (Str.ofString "pairs", .ref lo)] news lo (if ns = [] then [] else wMin ns ws ++ wMax ns ws ++ wAll ns ws) s) ?_ ?_
  · repeat ((fail_if_success (with_reducible show wpAny _ _ (execs (PySem.Stmt.If _ _ _ _ :: _) _) _ _ _)); (first | walk1 | (dsimp only; walk1)))
    · rename_i l3 h3 F3 N3 l4 he
      have h0 : ns = [] := by cases hns with | nil => rfl | cons => cases he
      dsimp only
      k_steps
      rw [if_pos h0]
      exact PairsAt.mk' (ex := []) (vs := []) F3 N3 ⟨rfl, rfl, rfl, trivial⟩ (List.mem_cons_of_mem _ (List.mem_cons_self ..)) (fun q hq => List.mem_cons_of_mem _ (List.mem_cons_of_mem _ hq)) Apart.nil hlo .nil
    · rename_i l3 h3 F3 N3 l4 he
      have h0 : ns ≠ [] := fun e => by subst e; cases hns; cases he
      rw [if_neg h0]
      have hpos : 0 < ns.length := List.length_pos_iff.mpr h0
      refine stmt_cut (PairsAt g L [(Str.ofString "numbers", .ref na), (Str.ofString "wants", .ref wa), (Str.ofString "pairs", .ref lo)] news lo (wMin ns ws) s) ?_ ?_
      · k_steps
        · rename_i hc t1 h5 M5 t5 tk5 hM hL D1 h6 l6 h7 F4 N4
          rw [min_yes hc]
          exact PairsAt.one (ex := []) (ex2 := []) (vs := []) F4 N4 ⟨rfl, rfl, rfl, trivial⟩ (List.mem_cons_of_mem _ (List.mem_cons_of_mem _ (List.mem_cons_self ..))) (List.mem_cons_self ..) (fun _ h => (nomatch h)) (fun q hq => List.mem_cons_of_mem _ (List.mem_cons_of_mem _ (List.mem_cons_of_mem _ hq))) Apart.nil hlo Apart.nil (fun _ h => (nomatch h)) (fun r hr => Nat.ne_of_gt (allLt_mem l6.2.2 r hr)) (Nat.ne_of_gt l6.2.1) (by rw [← min_eq hM hL]; exact .int _ _) .nil
        · rename_i hc
          rw [min_no hc]
          exact PairsAt.mk' (ex := []) (vs := []) F3 N3 ⟨rfl, rfl, rfl, trivial⟩ (List.mem_cons_of_mem _ (List.mem_cons_self ..)) (fun q hq => List.mem_cons_of_mem _ (List.mem_cons_of_mem _ hq)) Apart.nil hlo .nil
      · rintro _ ⟨h, tk, m, vs, k, ex, rfl, F, km, N, hap, hne, hd⟩
        replace F := fr_on F km
        simp only [mOn] at F
        refine stmt_cut (PairsAt g L [(Str.ofString "numbers", .ref na), (Str.ofString "wants", .ref wa), (Str.ofString "pairs", .ref lo)] news lo (wMin ns ws ++ wMax ns ws) s) ?_ ?_
        · have hvl : vs.length ≤ 3 := by rw [dat_len hd]; exact Nat.le_trans wMin_len (by decide)
          k_steps
          · rename_i hc t1 h5 M5 t5 tk5 hM hL D1 h6 l6 h7 F4 N4
            rw [List.push_toArray] at N4
            rw [max_yes hc]
            exact PairsAt.one (ex2 := []) F4 N4 ⟨rfl, rfl, rfl, trivial⟩ (List.mem_cons_of_mem _ (List.mem_cons_self ..)) (List.mem_cons_self ..) (fun _ h => (nomatch h)) (fun q hq => List.mem_cons_of_mem _ (List.mem_cons_of_mem _ hq)) hap hne Apart.nil (fun _ h => (nomatch h)) (fun r hr => Nat.ne_of_gt (allLt_mem l6.2 r (sub_app r hr))) (Nat.ne_of_gt l6.1) (by rw [← max_eq hM hL]; exact .int _ _) hd
          · rename_i hc
            rw [max_no hc]
            exact PairsAt.mk' F N ⟨rfl, rfl, rfl, trivial⟩ (List.mem_cons_self ..) (fun q hq => List.mem_cons_of_mem _ hq) hap hne hd
        · rintro _ ⟨h, tk, m, vs, k, ex, rfl, F, km, N, hap, hne, hd⟩
          replace F := fr_on F km
          simp only [mOn] at F
          have hvl : vs.length ≤ 3 := by rw [dat_len hd, List.length_append]; exact Nat.le_trans (Nat.add_le_add wMin_len wMax_len) (by decide)
          repeat' ((fail_if_success (with_reducible show wpAny _ _ (call (Value.builtin "list.append") _) _ _ _)); (first | walk1 | (dsimp only; walk1)))
          · rename_i D5 v5 n5 c5 h5 l5 i5 e5 p5 o5 b5 z5 h6 tk6 T6 tvs6 k6 ex6 hp6 hd6 D6 h7 F6 N6 l6
            have r1 : @Ne Nat D6 lo := Nat.ne_of_gt (allLt_mem l6.2 (lo, listOf vs.toArray k) (by simp))
            have r2 : ∀ q ∈ (T6, tupO tvs6 k6) :: ex6, @Ne Nat q.1 lo := fun q hq => hp6 q hq (lo, listOf vs.toArray k) (by simp)
            have r3 : ∀ q ∈ (T6, tupO tvs6 k6) :: (ex6 ++ (ex ++ news)), @Ne Nat q.1 lo := fun q hq => by
              rcases List.mem_cons.mp hq with rfl | hq
              · exact r2 _ (List.mem_cons_self ..)
              · rcases List.mem_append.mp hq with hq | hq
                · exact r2 _ (List.mem_cons_of_mem _ hq)
                · exact hne q hq
            replace N6 := drop_ N6 (news := (D6, tupO [.str (Str.ofString "ALL") _, .ref T6] 0) :: (lo, listOf vs.toArray k) :: (T6, tupO tvs6 k6) :: (ex6 ++ (ex ++ news))) (sub_cons (List.mem_cons_self ..) fun q hq => by
              simp only [List.mem_cons, List.mem_append] at hq ⊢
              rcases hq with h | h | h | h | h <;> simp [h])
            k_steps
            rename_i h8 F8 N8
            rw [List.push_toArray] at N8
            rw [all_yes (.inl (by assumption)), ← sort_eq p5 o5]
            exact PairsAt.one (ex2 := (T6, tupO tvs6 k6) :: ex6) F8 N8 ⟨rfl, rfl, rfl, trivial⟩ (List.mem_cons_of_mem _ (List.mem_cons_self ..)) (List.mem_cons_self ..) (fun q hq => by
              rcases List.mem_cons.mp hq with rfl | hq
              · exact List.mem_cons_of_mem _ (List.mem_cons_of_mem _ (List.mem_cons_self ..))
              · exact List.mem_cons_of_mem _ (List.mem_cons_of_mem _ (List.mem_cons_of_mem _ (List.mem_append_left _ hq)))) (fun q hq => by simp only [List.mem_append] at hq; rcases hq with h | h <;> simp [h]) hap hne (fun q hq r hr => hp6 q hq r (by simp [hr])) r2
              (fun r hr => Nat.ne_of_gt (allLt_mem l6.2 r (by simp [hr]))) r1 (.tuple (List.mem_cons_self ..) (hd6.mono fun q hq => List.mem_cons_of_mem _ hq)) hd
          · rename_i D5 v5 n5 c5 h5 l5 i5 e5 p5 o5 b5 z5 h6 tk6 T6 tvs6 k6 ex6 hp6 hd6 D6 h7 F6 N6 l6
            have r1 : @Ne Nat D6 lo := Nat.ne_of_gt (allLt_mem l6.2 (lo, listOf vs.toArray k) (by simp))
            have r2 : ∀ q ∈ (T6, tupO tvs6 k6) :: ex6, @Ne Nat q.1 lo := fun q hq => hp6 q hq (lo, listOf vs.toArray k) (by simp)
            have r3 : ∀ q ∈ (T6, tupO tvs6 k6) :: (ex6 ++ (ex ++ news)), @Ne Nat q.1 lo := fun q hq => by
              rcases List.mem_cons.mp hq with rfl | hq
              · exact r2 _ (List.mem_cons_self ..)
              · rcases List.mem_append.mp hq with hq | hq
                · exact r2 _ (List.mem_cons_of_mem _ hq)
                · exact hne q hq
            replace N6 := drop_ N6 (news := (D6, tupO [.str (Str.ofString "ALL") _, .ref T6] 0) :: (lo, listOf vs.toArray k) :: (T6, tupO tvs6 k6) :: (ex6 ++ (ex ++ news))) (sub_cons (List.mem_cons_self ..) fun q hq => by
              simp only [List.mem_cons, List.mem_append] at hq ⊢
              rcases hq with h | h | h | h | h <;> simp [h])
            k_steps
            rename_i h8 F8 N8
            rw [List.push_toArray] at N8
            rw [all_yes (.inr (List.length_eq_zero_iff.mp (by have := hws.length; omega))), ← sort_eq p5 o5]
            exact PairsAt.one (ex2 := (T6, tupO tvs6 k6) :: ex6) F8 N8 ⟨rfl, rfl, rfl, trivial⟩ (List.mem_cons_of_mem _ (List.mem_cons_self ..)) (List.mem_cons_self ..) (fun q hq => by
              rcases List.mem_cons.mp hq with rfl | hq
              · exact List.mem_cons_of_mem _ (List.mem_cons_of_mem _ (List.mem_cons_self ..))
              · exact List.mem_cons_of_mem _ (List.mem_cons_of_mem _ (List.mem_cons_of_mem _ (List.mem_append_left _ hq)))) (fun q hq => by simp only [List.mem_append] at hq; rcases hq with h | h <;> simp [h]) hap hne (fun q hq r hr => hp6 q hq r (by simp [hr])) r2
              (fun r hr => Nat.ne_of_gt (allLt_mem l6.2 r (by simp [hr]))) r1 (.tuple (List.mem_cons_self ..) (hd6.mono fun q hq => List.mem_cons_of_mem _ hq)) hd
          · rw [all_no (fun h => h.elim (fun h => by simp_all) (fun h => by subst h; cases hws; simp_all))]
            exact PairsAt.mk' F N ⟨rfl, rfl, rfl, trivial⟩ (List.mem_cons_self ..) (fun q hq => List.mem_cons_of_mem _ hq) hap hne hd
  · rintro _ ⟨h, tk, m, vs, k, ex, rfl, F, km, N, hap, hne, hd⟩
    replace F := fr_on F km
    simp only [mOn] at F
    refine stmt_cut (PairsAt g L [(Str.ofString "numbers", .ref na), (Str.ofString "wants", .ref wa), (Str.ofString "pairs", .ref lo)] news lo (wantD ns ws) s) ?_ ?_
    · have hvl : vs.length ≤ 3 := by rw [dat_len hd]; exact wThree_len
      k_steps
      · rename_i hc t1 t2 t3 D1 h3 l3 h4 F4 N4
        rw [List.push_toArray] at N4
        rw [count_yes hc]
        exact PairsAt.one (ex2 := []) F4 N4 ⟨rfl, rfl, rfl, trivial⟩ (List.mem_cons_of_mem _ (List.mem_cons_self ..)) (List.mem_cons_self ..) (fun _ h => (nomatch h)) (fun q hq => List.mem_cons_of_mem _ (List.mem_cons_of_mem _ hq)) hap hne Apart.nil (fun _ h => (nomatch h)) (fun r hr => Nat.ne_of_gt (allLt_mem l3.2 r (sub_app r hr))) (Nat.ne_of_gt l3.1) (by rw [hns.length]; exact .int _ _) hd
      · rename_i hc
        rw [count_no hc]
        exact PairsAt.mk' F N ⟨rfl, rfl, rfl, trivial⟩ (List.mem_cons_self ..) (fun q hq => List.mem_cons_of_mem _ hq) hap hne hd
    · rintro _ ⟨h, tk, m, vs, k, ex, rfl, F, km, N, hap, hne, hd⟩
      replace F := fr_on F km
      simp only [mOn] at F
      k_steps
      show Back _ _ _ _ _ _
      exact Back.intro F N (fun _ h => h) ⟨lo, vs, k, ex, rfl, rfl, Apart.cons (fun r hr => Ne.symm (hne r (sub_app r hr))) hap, hd.mono fun q hq => List.mem_append_left _ hq⟩

end
section
variable {w : World} {p : Program} {loose : List Str} {mean : ExcName → Option Value} {mg mb : Str → Option Value}
/-! ### the two readings agree -/
theorem flag_agree2 : ∀ x ∈ SPELL, ∀ mask : Fin 32, progFlag x (flagsOf mask) = lawFlag x (flagsOf mask) := by decide +kernel
theorem has_agree {n top : Int} (ht : 0 ≤ top) : ∀ {ps : List (Int × Int)}, (∀ q ∈ ps, 0 ≤ q.1 ∧ 0 ≤ q.2) → progHas ps n top = lawHas ps n top
  | [], _ => rfl
  | q :: ps, h => by
    show (progPair q n top || progHas ps n top) = (lawPair q n top || lawHas ps n top)
    rw [pair_agree (h q (List.mem_cons_self ..)).1 (h q (List.mem_cons_self ..)).2 ht, has_agree ht fun q hq => h q (List.mem_cons_of_mem _ hq)]
theorem leaf_agree {t : T} {num uid g1 g2 : Int} {fl : List Str} (ho : t.ok) (hf : ∃ k : Fin 32, fl = flagsOf k) (h1 : 0 ≤ g1) (h2 : 0 ≤ g2) : leafP t num uid fl g1 g2 = lawLeaf num uid fl g1 g2 t := by
  obtain ⟨k, rfl⟩ := hf
  cases t with
  | flag x => exact flag_agree2 x ho k
  | seq ps => exact has_agree h1 ho
  | uid ps => exact has_agree h2 ho
  | _ => rfl
theorem evalT_congr {P Q : T → Bool} (h : ∀ u : T, u.ok → P u = Q u) : ∀ t : T, t.ok → evalT P t = evalT Q t
  | .all, _ => rfl
  | .flag x, ho => h (.flag x) ho
  | .seq x, ho => h (.seq x) ho
  | .uid x, ho => h (.uid x) ho
  | .nt a, ho => by show (!evalT P a) = !evalT Q a; rw [evalT_congr h a ho]
  | .an a b, ho => by show (evalT P a && evalT P b) = (evalT Q a && evalT Q b); rw [evalT_congr h a ho.1, evalT_congr h b ho.2]
  | .or a b, ho => by show (evalT P a || evalT P b) = (evalT Q a || evalT Q b); rw [evalT_congr h a ho.1, evalT_congr h b ho.2]
noncomputable abbrev Ltr := Int × Int × List Str
noncomputable def LGood (l : Ltr) : Prop := 0 ≤ l.1 ∧ 0 ≤ l.2.1 ∧ ∃ k : Fin 32, l.2.2 = flagsOf k
theorem row_agree {t : T} {g : Int × Int} {l : Ltr} (ho : t.ok) (hl : LGood l) (h1 : 0 ≤ g.1) (h2 : 0 ≤ g.2) : rowP t g l = metP false g t l :=
  evalT_congr (fun u hu => leaf_agree hu hl.2.2 h1 h2) t ho
theorem row_agreeU {t : T} {g : Int × Int} {l : Ltr} (ho : t.ok) (hl : LGood l) (h1 : 0 ≤ g.1) (h2 : 0 ≤ g.2) : rowP t g (uidRow l) = metP true g t l :=
  evalT_congr (fun u hu => leaf_agree hu hl.2.2 h1 h2) t ho
theorem ctx_nonneg {ls : List Ltr} (h : ∀ l ∈ ls, LGood l) : 0 ≤ (ctxOf ls).1 ∧ 0 ≤ (ctxOf ls).2 := by
  rcases List.eq_nil_or_concat ls with rfl | ⟨r, l, rfl⟩
  · exact ⟨Int.le_refl _, Int.le_refl _⟩
  · rw [List.concat_eq_append] at h ⊢
    rw [ctxOf_snoc]
    have := h l (by simp)
    exact ⟨this.1, this.2.1⟩
theorem ctx_tops {ls : List Ltr} : ctxOf ls = topsL false ls := rfl
theorem ctx_topsU {ls : List Ltr} : ctxOf (ls.map uidRow) = topsL true ls := by
  rcases List.eq_nil_or_concat ls with rfl | ⟨r, l, rfl⟩
  · rfl
  · rw [List.concat_eq_append, List.map_append, topsL_snoc]
    exact ctxOf_snoc
theorem tops_nonneg {b : Bool} {ls : List Ltr} (h : ∀ l ∈ ls, LGood l) : 0 ≤ (topsL b ls).1 ∧ 0 ≤ (topsL b ls).2 := by
  rcases List.eq_nil_or_concat ls with rfl | ⟨r, l, rfl⟩
  · exact ⟨Int.le_refl _, Int.le_refl _⟩
  · rw [List.concat_eq_append] at h ⊢
    rw [topsL_snoc]
    have := h l (by simp)
    cases b
    · exact ⟨this.1, this.2.1⟩
    · exact ⟨this.2.1, this.2.1⟩
theorem search_due {t : T} {ls : List Ltr} (ho : t.ok) (h : ∀ l ∈ ls, LGood l) : foundIn (rowP t (ctxOf ls)) ls = dueL false t ls := by
  unfold foundIn dueL
  rw [ctx_tops]
  have := tops_nonneg (b := false) h
  rw [List.filter_congr fun l hl => row_agree ho (h l hl) this.1 this.2]
  rfl
theorem search_dueU {t : T} {ls : List Ltr} (ho : t.ok) (h : ∀ l ∈ ls, LGood l) : foundIn (rowP t (ctxOf (ls.map uidRow))) (ls.map uidRow) = dueL true t ls := by
  unfold foundIn dueL
  rw [ctx_topsU]
  have := tops_nonneg (b := true) h
  rw [List.filter_map, List.map_map, List.filter_congr fun l hl => show ((rowP t (topsL true ls)) ∘ uidRow) l = metP true (topsL true ls) t l from row_agreeU ho (h l hl) this.1 this.2]
  rfl
theorem search_left {t : T} {ls : List Ltr} {lf : List Int} (hl : ∀ l, ls.getLast? = some l → l.1 ∈ lf) : foundIn (rowP t (ctxOf (ls.filter fun l => decide (l.1 ∈ lf)))) (ls.filter fun l => decide (l.1 ∈ lf)) = (foundIn (rowP t (ctxOf ls)) ls).filter fun n => decide (n ∈ lf) := by
  have e : ctxOf (ls.filter fun l => decide (l.1 ∈ lf)) = ctxOf ls := by
    rcases List.eq_nil_or_concat ls with rfl | ⟨r, l, rfl⟩
    · rfl
    · rw [List.concat_eq_append] at hl ⊢
      have := hl l (by simp)
      rw [List.filter_append, List.filter_cons_of_pos (by simpa using this), List.filter_nil, ctxOf_snoc, ctxOf_snoc]
  rw [e]
  unfold foundIn
  rw [List.filter_map, List.filter_filter, List.filter_filter]
  congr 1
  apply List.filter_congr
  intro l _
  simp only [Function.comp]
  rw [Bool.and_comm]

end
section
variable {w : World} {p : Program} {loose : List Str} {mean : ExcName → Option Value} {mg mb : Str → Option Value}
/-! ### the law, statement by statement -/
noncomputable def lawBody : List Stmt := match st 151 with
  | .FunctionDef _ _ b _ _ _ _ _ _ _ => b
  | _ => []
noncomputable def lawScope : Scope := match st 151 with
  | .FunctionDef _ _ _ _ _ _ sc _ _ _ => sc
  | _ => { kind := .function, names := [], isGenerator := false, isCoroutine := false }
noncomputable def lawSt (k : Nat) : Stmt := lawBody[k]?.getD (.Pass ⟨0, 0, 0, 0⟩)
noncomputable abbrev lawE (L f : Addr) (cd : Value) : Env := envOfC (Str.ofString "law") lawScope L f cd
noncomputable abbrev lawA (dp un : Nat) (gd : Option (List Code)) (L f : Addr) (cd : Value) (outer : List Env) : Around := ktrTop dp un gd (Str.ofString "law") lawScope L f cd (cellsFrom (L + 1) lawScope.names []) outer
theorem enter_st {w : World} {name qual pmx : Str} {ptx : Tok} {params : Arguments} {body : List Stmt} {scope : Scope} {cdv : Value} {k : Nat} {stt : Stmt} {dp un : Nat} {gd : Option (List Code)} {L f : Addr} {cd : Value} {outer : List Env} {s : Shared} {Q : Flow → Shared → Prop} {E : Value → Shared → Prop}
    (ho : (heapK w.params).lookup 872 = some ⟨.type "function", none, .func (fnOf name qual params body scope .none .none .none (.str pmx ptx) none cdv .none), #[]⟩) (hk : body[k]? = some stt)
    (h : wpAny (model (OpenRow.toRowW (OpenLaw.row PySem.Challenge.rw_pq0955_01)).prog w) (ktrTop dp un gd qual scope L f cd (cellsFrom (L + 1) scope.names []) outer) (exec stt (envOfC qual scope L f cd)) Q E s) :
    wpAny (model (OpenRow.toRowW (OpenLaw.row PySem.Challenge.rw_pq0955_01)).prog w) (lawA dp un gd L f cd outer) (exec (lawSt k) (lawE L f cd)) Q E s := by
  have e : (heapK w.params).lookup 872 = some (o872 w.params) := by kernel_rfl
  have e2 := Option.some.inj (ho.symm.trans e)
  have e3 : body = lawBody := congrArg (fun o : Obj => match o.data with | .func fd => (match fd.body with | .stmts b => b | _ => []) | _ => []) e2
  have e4 : qual = Str.ofString "law" := congrArg (fun o : Obj => match o.data with | .func fd => fd.qualname | _ => Str.empty) e2
  have e5 : scope = lawScope := congrArg (fun o : Obj => match o.data with | .func fd => fd.scope | _ => lawScope) e2
  subst e3
  subst e4
  subst e5
  have e6 : lawSt k = stt := by unfold lawSt; rw [hk]; rfl
  rw [e6]
  exact h
noncomputable abbrev Led := List (Addr × Obj)
noncomputable def Dj (A B : Led) : Prop := ∀ p ∈ A, ∀ q ∈ B, @Ne Nat p.1 q.1
noncomputable abbrev cl4 (L : Addr) (o1 o2 o3 o4 : Obj) : Led := [(L + 1, o1), (L + 1 + 1, o2), (L + 1 + 1 + 1, o3), (L + 1 + 1 + 1 + 1, o4)]
noncomputable def Split (C S M R : Led) : Prop := Dj C S ∧ Dj C M ∧ Dj C R ∧ Dj S M ∧ Dj S R ∧ Dj M R
theorem Dj.symm {A B : Led} (h : Dj A B) : Dj B A := fun p hp q hq => Ne.symm (h q hq p hp)
theorem Dj.app {A B C : Led} (h : Dj A B) (k : Dj A C) : Dj A (B ++ C) := fun p hp q hq => by
  rcases List.mem_append.mp hq with x | x
  · exact h p hp q x
  · exact k p hp q x
theorem Dj.left {A B C : Led} (h : Dj A (B ++ C)) : Dj A B := fun p hp q hq => h p hp q (List.mem_append_left _ hq)
theorem Dj.right {A B C : Led} (h : Dj A (B ++ C)) : Dj A C := fun p hp q hq => h p hp q (List.mem_append_right _ hq)
theorem Dj.sub {A B C : Led} (h : Dj A B) (s : ∀ q ∈ C, q ∈ B) : Dj A C := fun p hp q hq => h p hp q (s q hq)
theorem Dj.new {A B : Led} {D : Addr} {o : Obj} (h : Dj A B) (k : ∀ q ∈ A, @Ne Nat q.1 D) : Dj A ((D, o) :: B) := fun p hp q hq => by
  rcases List.mem_cons.mp hq with rfl | hq
  · exact k p hp
  · exact h p hp q hq
theorem Dj.src {A S S' : Led} {sa ca : Addr} {t t' : Int} (h : Dj A S) (hS : Src sa ca t S) (hS' : Src sa ca t' S') : Dj A S' := Src.off hS hS' h
theorem off_dj {A S : Led} {sa ca : Addr} {t : Int} (hS : Src sa ca t S) (h : Dj A S) : Off2 sa ca A := Off2.of hS h
theorem dj_off {A S : Led} {sa ca : Addr} {t : Int} (hS : Src sa ca t S) (h : Off2 sa ca A) : Dj A S := fun p hp q hq => by
  rcases hS.keys q hq with e | e <;> rw [e]
  · exact (h p hp).1
  · exact (h p hp).2
/-- the store drawn on -/
theorem Split.src {C S S' M R ex : Led} {sa ca : Addr} {t t' : Int} (h : Split C S M R) (hS : Src sa ca t S) (hS' : Src sa ca t' S') (ho : Off2 sa ca ex) (ha : Apart ex (C ++ (M ++ R))) : Split C S' M (ex ++ R) := by
  obtain ⟨h1, h2, h3, h4, h5, h6⟩ := h
  have ha' : Dj ex (C ++ (M ++ R)) := ha
  exact ⟨h1.src hS hS', h2, ha'.left.symm.app h3, (h4.symm.src hS hS').symm, ((dj_off hS' ho).symm).app ((h5.symm.src hS hS').symm), ha'.right.left.symm.app h6⟩
theorem Split.draw {C S S' M R : Led} {sa ca : Addr} {t t' : Int} (h : Split C S M R) (hS : Src sa ca t S) (hS' : Src sa ca t' S') : Split C S' M R :=
  h.src hS hS' (fun _ h => nomatch h) (ex := []) Apart.nil
theorem Split.off {C S M R : Led} {sa ca : Addr} {t : Int} (h : Split C S M R) (hS : Src sa ca t S) : Off2 sa ca (C ++ (M ++ R)) := by
  obtain ⟨h1, h2, h3, h4, h5, h6⟩ := h
  exact (off_dj hS h1).app ((off_dj hS h4.symm).app (off_dj hS h5.symm))
/-- the table of the lambda turned -/
theorem Split.tab {C S M M' R ex : Led} (h : Split C S M R) (hm : MOff M' (C ++ (S ++ (ex ++ R)))) (he : Dj (C ++ S) ex) : Split C S M' (ex ++ R) := by
  obtain ⟨h1, h2, h3, h4, h5, h6⟩ := h
  have hm' : Dj M' (C ++ (S ++ (ex ++ R))) := hm
  have c1 : Dj C ex := fun p hp => he p (List.mem_append_left _ hp)
  have s1 : Dj S ex := fun p hp => he p (List.mem_append_right _ hp)
  exact ⟨h1, hm'.left.symm, c1.app h3, hm'.right.left.symm, s1.app h5, hm'.right.right⟩
theorem Split.moff {C S M R : Led} (h : Split C S M R) : MOff M (C ++ (S ++ R)) := by
  obtain ⟨h1, h2, h3, h4, h5, h6⟩ := h
  have x : Dj M (C ++ (S ++ R)) := h2.symm.app (h4.symm.app h6)
  exact x
/-- something new -/
theorem Split.new {C S M R : Led} {D : Addr} {o : Obj} (h : Split C S M R) (hn : ∀ q ∈ C ++ (S ++ (M ++ R)), @Ne Nat q.1 D) : Split C S M ((D, o) :: R) := by
  obtain ⟨h1, h2, h3, h4, h5, h6⟩ := h
  exact ⟨h1, h2, h3.new fun q hq => hn q (by simp [hq]), h4, h5.new fun q hq => hn q (by simp [hq]), h6.new fun q hq => hn q (by simp [hq])⟩
theorem Split.add {C S M R ex : Led} (h : Split C S M R) (hn : Dj ex (C ++ (S ++ (M ++ R)))) : Split C S M (ex ++ R) := by
  obtain ⟨h1, h2, h3, h4, h5, h6⟩ := h
  exact ⟨h1, h2, hn.left.symm.app h3, h4, hn.right.left.symm.app h5, hn.right.right.left.symm.app h6⟩
theorem dj_cl {L : Addr} {o1 o2 o3 o4 p1 p2 p3 p4 : Obj} {B : Led} (h : Dj (cl4 L o1 o2 o3 o4) B) : Dj (cl4 L p1 p2 p3 p4) B := fun p hp q hq => by
  simp only [List.mem_cons, List.not_mem_nil, or_false] at hp
  rcases hp with rfl | rfl | rfl | rfl
  · exact h (L + 1, o1) (by simp) q hq
  · exact h (L + 1 + 1, o2) (by simp) q hq
  · exact h (L + 1 + 1 + 1, o3) (by simp) q hq
  · exact h (L + 1 + 1 + 1 + 1, o4) (by simp) q hq
theorem Split.cell {L : Addr} {o1 o2 o3 o4 p1 p2 p3 p4 : Obj} {S M R : Led} (h : Split (cl4 L o1 o2 o3 o4) S M R) : Split (cl4 L p1 p2 p3 p4) S M R := by
  obtain ⟨h1, h2, h3, h4, h5, h6⟩ := h
  exact ⟨dj_cl h1, dj_cl h2, dj_cl h3, h4, h5, h6⟩
theorem Split.c1 {L : Addr} {o1 o2 o3 o4 : Obj} {S M R : Led} (h : Split (cl4 L o1 o2 o3 o4) S M R) : ∀ q ∈ (L + 1 + 1, o2) :: (L + 1 + 1 + 1, o3) :: (L + 1 + 1 + 1 + 1, o4) :: (S ++ (M ++ R)), q.1 ≠ L + 1 := fun q hq => by
  obtain ⟨h1, h2, h3, _⟩ := h
  simp only [List.mem_cons, List.mem_append] at hq
  rcases hq with rfl | rfl | rfl | hq | hq | hq
  · show @Ne Nat _ _; omega
  · show @Ne Nat _ _; omega
  · show @Ne Nat _ _; omega
  · exact Ne.symm (h1 (L + 1, o1) (by simp) q hq)
  · exact Ne.symm (h2 (L + 1, o1) (by simp) q hq)
  · exact Ne.symm (h3 (L + 1, o1) (by simp) q hq)
theorem Split.c2 {L : Addr} {o1 o2 o3 o4 : Obj} {S M R : Led} (h : Split (cl4 L o1 o2 o3 o4) S M R) : ∀ q ∈ (L + 1, o1) :: (L + 1 + 1 + 1, o3) :: (L + 1 + 1 + 1 + 1, o4) :: (S ++ (M ++ R)), q.1 ≠ L + 1 + 1 := fun q hq => by
  obtain ⟨h1, h2, h3, _⟩ := h
  simp only [List.mem_cons, List.mem_append] at hq
  rcases hq with rfl | rfl | rfl | hq | hq | hq
  · show @Ne Nat _ _; omega
  · show @Ne Nat _ _; omega
  · show @Ne Nat _ _; omega
  · exact Ne.symm (h1 (L + 1 + 1, o2) (by simp) q hq)
  · exact Ne.symm (h2 (L + 1 + 1, o2) (by simp) q hq)
  · exact Ne.symm (h3 (L + 1 + 1, o2) (by simp) q hq)
theorem Split.c3 {L : Addr} {o1 o2 o3 o4 : Obj} {S M R : Led} (h : Split (cl4 L o1 o2 o3 o4) S M R) : ∀ q ∈ (L + 1, o1) :: (L + 1 + 1, o2) :: (L + 1 + 1 + 1 + 1, o4) :: (S ++ (M ++ R)), q.1 ≠ L + 1 + 1 + 1 := fun q hq => by
  obtain ⟨h1, h2, h3, _⟩ := h
  simp only [List.mem_cons, List.mem_append] at hq
  rcases hq with rfl | rfl | rfl | hq | hq | hq
  · show @Ne Nat _ _; omega
  · show @Ne Nat _ _; omega
  · show @Ne Nat _ _; omega
  · exact Ne.symm (h1 (L + 1 + 1 + 1, o3) (by simp) q hq)
  · exact Ne.symm (h2 (L + 1 + 1 + 1, o3) (by simp) q hq)
  · exact Ne.symm (h3 (L + 1 + 1 + 1, o3) (by simp) q hq)
theorem Split.c4 {L : Addr} {o1 o2 o3 o4 : Obj} {S M R : Led} (h : Split (cl4 L o1 o2 o3 o4) S M R) : ∀ q ∈ (L + 1, o1) :: (L + 1 + 1, o2) :: (L + 1 + 1 + 1, o3) :: (S ++ (M ++ R)), q.1 ≠ L + 1 + 1 + 1 + 1 := fun q hq => by
  obtain ⟨h1, h2, h3, _⟩ := h
  simp only [List.mem_cons, List.mem_append] at hq
  rcases hq with rfl | rfl | rfl | hq | hq | hq
  · show @Ne Nat _ _; omega
  · show @Ne Nat _ _; omega
  · show @Ne Nat _ _; omega
  · exact Ne.symm (h1 (L + 1 + 1 + 1 + 1, o4) (by simp) q hq)
  · exact Ne.symm (h2 (L + 1 + 1 + 1 + 1, o4) (by simp) q hq)
  · exact Ne.symm (h3 (L + 1 + 1 + 1 + 1, o4) (by simp) q hq)
/-- where the law stands between two statements -/
inductive LawSt (g : Heap) (L : Addr) (tm : Int) (Kn : (Str → Option Value) → Obj → Obj → Obj → Led → Prop) (s₀ s' : Shared) : Prop
  | mk (h' : Heap) (tk' : Nat) (m : Str → Option Value) (o1 o2 o3 o4 : Obj) (sa ca : Addr) (t : Int) (S M R : Led) (z0 : s' = { s₀ with heap := h', toks := tk' }) (z1 : Fr g L h' m) (z2 : News g L h' (cl4 L o1 o2 o3 o4 ++ (S ++ (M ++ R)))) (z3 : Src sa ca t S) (z4 : @Ne Nat sa ca) (z5 : MT M) (z6 : Split (cl4 L o1 o2 o3 o4) S M R) (z7 : 0 ≤ t) (z8 : t ≤ tm) (z9 : o1.data = .cell (some (.ref sa))) (z10 : (∃ v, o2.data = .cell v)) (z11 : (∃ v, o3.data = .cell v)) (z12 : (∃ v, o4.data = .cell v)) (z13 : Kn m o2 o3 o4 R) : LawSt g L tm Kn s₀ s'
theorem LawSt.mk' {g h' : Heap} {L : Addr} {tm : Int} {Kn : (Str → Option Value) → Obj → Obj → Obj → Led → Prop} {s₀ : Shared} {tk' : Nat} {m : Str → Option Value} {o1 o2 o3 o4 : Obj} {sa ca : Addr} {t : Int} {S M R all : Led}
    (F : Fr g L h' m) (N : News g L h' all) (hs : ∀ q ∈ cl4 L o1 o2 o3 o4 ++ (S ++ (M ++ R)), q ∈ all) (hS : Src sa ca t S) (hne : @Ne Nat sa ca) (hM : MT M) (hsp : Split (cl4 L o1 o2 o3 o4) S M R) (h0 : 0 ≤ t) (h1 : t ≤ tm)
    (d1 : o1.data = .cell (some (.ref sa))) (d2 : ∃ v, o2.data = .cell v) (d3 : ∃ v, o3.data = .cell v) (d4 : ∃ v, o4.data = .cell v) (k : Kn m o2 o3 o4 R) : LawSt g L tm Kn s₀ { s₀ with heap := h', toks := tk' } :=
  ⟨h', tk', m, o1, o2, o3, o4, sa, ca, t, S, M, R, rfl, F, drop_ N hs, hS, hne, hM, hsp, h0, h1, d1, d2, d3, d4, k⟩
inductive KL (ls : List (Int × Int × List Str)) (o2 : Obj) (R : Led) : Prop
  | mk (la : Addr) (lvs : List Value) (k : Nat) (z0 : o2.data = .cell (some (.ref la))) (z1 : (la, listOf lvs.toArray k) ∈ R) (z2 : DatAll R lvs (ls.map letD)) : KL ls o2 R
inductive KT (t : Mine.T) (m : Str → Option Value) (R : Led) : Prop
  | mk (tv : Value) (z0 : m (Str.ofString "tree") = some tv) (z1 : DatIn R tv t.dat) : KT t m R
inductive KR (w : World) (ls : List (Int × Int × List Str)) (m : Str → Option Value) (R : Led) : Prop
  | mk (ra : Addr) (rvs : List Value) (k : Nat) (z0 : m (Str.ofString "rows") = some (.ref ra)) (z1 : (ra, listOf rvs.toArray k) ∈ R) (z2 : RowsIn w R rvs ls) : KR w ls m R
inductive KI (x : String) (fs : List Int) (m : Str → Option Value) (R : Led) : Prop
  | mk (da : Addr) (dvs : List Value) (k : Nat) (z0 : m (Str.ofString x) = some (.ref da)) (z1 : (da, listOf dvs.toArray k) ∈ R) (z2 : IntsAre dvs fs) : KI x fs m R
inductive KF (lf : List Int) (o3 : Obj) (R : Led) : Prop
  | mk (fa : Addr) (fvs : List Value) (k : Nat) (z0 : o3.data = .cell (some (.ref fa))) (z1 : (fa, listOf fvs.toArray k) ∈ R) (z2 : IntsAre fvs lf) : KF lf o3 R
inductive KG (g2 : Int × Int) (m : Str → Option Value) (R : Led) : Prop
  | mk (ta : Addr) (u1 u2 : Tok) (k : Nat) (z0 : m (Str.ofString "tops") = some (.ref ta)) (z1 : (ta, tupO [.int g2.1 u1, .int g2.2 u2] k) ∈ R) : KG g2 m R
inductive KWd (ws : List Str) (m : Str → Option Value) (R : Led) : Prop
  | mk (wa : Addr) (wvs : List Value) (k : Nat) (z0 : m (Str.ofString "wants") = some (.ref wa)) (z1 : (wa, listOf wvs.toArray k) ∈ R) (z2 : StrsAre wvs ws) : KWd ws m R
theorem KL.mono {ls : List (Int × Int × List Str)} {o2 : Obj} {R R' : Led} (h : KL ls o2 R) (s : ∀ q ∈ R, q ∈ R') : KL ls o2 R' := by
  obtain ⟨a, vs, k, h1, h2, h3⟩ := h
  exact ⟨a, vs, k, h1, s _ h2, h3.mono s⟩
theorem KT.mono {t : Mine.T} {m m' : Str → Option Value} {R R' : Led} (h : KT t m R) (e : m' (Str.ofString "tree") = m (Str.ofString "tree")) (s : ∀ q ∈ R, q ∈ R') : KT t m' R' := by
  obtain ⟨v, h1, h2⟩ := h
  exact ⟨v, e.trans h1, h2.mono s⟩
theorem KR.mono {w : World} {ls : List (Int × Int × List Str)} {m m' : Str → Option Value} {R R' : Led} (h : KR w ls m R) (e : m' (Str.ofString "rows") = m (Str.ofString "rows")) (s : ∀ q ∈ R, q ∈ R') : KR w ls m' R' := by
  obtain ⟨a, vs, k, h1, h2, h3⟩ := h
  exact ⟨a, vs, k, e.trans h1, s _ h2, h3.mono s⟩
theorem KI.mono {x : String} {fs : List Int} {m m' : Str → Option Value} {R R' : Led} (h : KI x fs m R) (e : m' (Str.ofString x) = m (Str.ofString x)) (s : ∀ q ∈ R, q ∈ R') : KI x fs m' R' := by
  obtain ⟨a, vs, k, h1, h2, h3⟩ := h
  exact ⟨a, vs, k, e.trans h1, s _ h2, h3⟩
theorem KF.mono {lf : List Int} {o3 : Obj} {R R' : Led} (h : KF lf o3 R) (s : ∀ q ∈ R, q ∈ R') : KF lf o3 R' := by
  obtain ⟨a, vs, k, h1, h2, h3⟩ := h
  exact ⟨a, vs, k, h1, s _ h2, h3⟩
theorem KG.mono {g2 : Int × Int} {m m' : Str → Option Value} {R R' : Led} (h : KG g2 m R) (e : m' (Str.ofString "tops") = m (Str.ofString "tops")) (s : ∀ q ∈ R, q ∈ R') : KG g2 m' R' := by
  obtain ⟨a, u1, u2, k, h1, h2⟩ := h
  exact ⟨a, u1, u2, k, e.trans h1, s _ h2⟩
theorem KWd.mono {ws : List Str} {m m' : Str → Option Value} {R R' : Led} (h : KWd ws m R) (e : m' (Str.ofString "wants") = m (Str.ofString "wants")) (s : ∀ q ∈ R, q ∈ R') : KWd ws m' R' := by
  obtain ⟨a, vs, k, h1, h2, h3⟩ := h
  exact ⟨a, vs, k, e.trans h1, s _ h2, h3⟩

end
section
variable {w : World} {p : Program} {loose : List Str} {mean : ExcName → Option Value} {mg mb : Str → Option Value}
section
variable {α : Type} {C S M R X ex : List α} {a b c d x : α}
theorem p_in : ∀ q ∈ S ++ (C ++ X), q ∈ C ++ (S ++ X) := by
  intro q hq
  simp only [List.mem_append] at hq ⊢
  rcases hq with h | h | h <;> simp [h]
theorem p_out : ∀ q ∈ C ++ (S ++ (M ++ (ex ++ R))), q ∈ S ++ (ex ++ (C ++ (M ++ R))) := by
  intro q hq
  simp only [List.mem_append] at hq ⊢
  rcases hq with h | h | h | h | h <;> simp [h]
theorem p_draw : ∀ q ∈ C ++ (S ++ X), q ∈ S ++ (C ++ X) := p_in
theorem p_tab : ∀ q ∈ M ++ (C ++ (S ++ R)), q ∈ C ++ (S ++ (M ++ R)) := by
  intro q hq
  simp only [List.mem_append] at hq ⊢
  rcases hq with h | h | h | h <;> simp [h]
theorem p_tabo : ∀ q ∈ C ++ (S ++ (M ++ (x :: R))), q ∈ M ++ x :: (C ++ (S ++ R)) := by
  intro q hq
  simp only [List.mem_append, List.mem_cons] at hq ⊢
  rcases hq with h | h | h | h | h <;> simp [h]
theorem p_new : ∀ q ∈ C ++ (S ++ (M ++ (x :: R))), q ∈ x :: (C ++ (S ++ (M ++ R))) := by
  intro q hq
  simp only [List.mem_append, List.mem_cons] at hq ⊢
  rcases hq with h | h | h | h | h <;> simp [h]
theorem p_add : ∀ q ∈ C ++ (S ++ (M ++ (ex ++ R))), q ∈ ex ++ (C ++ (S ++ (M ++ R))) := by
  intro q hq
  simp only [List.mem_append] at hq ⊢
  rcases hq with h | h | h | h | h <;> simp [h]
theorem p_R : ∀ q ∈ R, q ∈ C ++ (S ++ (M ++ R)) := fun q h => by simp [h]
theorem p_c2 : ∀ q ∈ b :: a :: c :: d :: X, q ∈ [a, b, c, d] ++ X := by
  intro q hq
  simp only [List.mem_append, List.mem_cons, List.not_mem_nil, or_false] at hq ⊢
  rcases hq with h | h | h | h | h <;> simp [h]
theorem p_c2' : ∀ q ∈ [a, b, c, d] ++ X, q ∈ b :: a :: c :: d :: X := by
  intro q hq
  simp only [List.mem_append, List.mem_cons, List.not_mem_nil, or_false] at hq ⊢
  rcases hq with (h | h | h | h) | h <;> simp [h]
theorem p_c3 : ∀ q ∈ c :: a :: b :: d :: X, q ∈ [a, b, c, d] ++ X := by
  intro q hq
  simp only [List.mem_append, List.mem_cons, List.not_mem_nil, or_false] at hq ⊢
  rcases hq with h | h | h | h | h <;> simp [h]
theorem p_c3' : ∀ q ∈ [a, b, c, d] ++ X, q ∈ c :: a :: b :: d :: X := by
  intro q hq
  simp only [List.mem_append, List.mem_cons, List.not_mem_nil, or_false] at hq ⊢
  rcases hq with (h | h | h | h) | h <;> simp [h]
theorem p_c4 : ∀ q ∈ d :: a :: b :: c :: X, q ∈ [a, b, c, d] ++ X := by
  intro q hq
  simp only [List.mem_append, List.mem_cons, List.not_mem_nil, or_false] at hq ⊢
  rcases hq with h | h | h | h | h <;> simp [h]
theorem p_c4' : ∀ q ∈ [a, b, c, d] ++ X, q ∈ d :: a :: b :: c :: X := by
  intro q hq
  simp only [List.mem_append, List.mem_cons, List.not_mem_nil, or_false] at hq ⊢
  rcases hq with (h | h | h | h) | h <;> simp [h]
end

end
section
variable {w : World} {p : Program} {loose : List Str} {mean : ExcName → Option Value} {mg mb : Str → Option Value}
theorem letter_apart {w : World} {all : List (Addr × Obj)} {x d : Addr} {a b c e f : Value} {l : List (Addr × Obj)} (h : LetterO w x d a b c e f l) (ho : Over all d) (hl : @LT.lt Nat _ d x) : Apart l all := by
  obtain ⟨t1, t2, t3, t4, t5, k, rfl⟩ := h
  exact Apart.cons (fun r hr => Nat.ne_of_gt (Nat.lt_trans (ho r hr) hl)) (Apart.cons (fun r hr => Nat.ne_of_gt (ho r hr)) Apart.nil)
theorem letter_in {w : World} {news l : List (Addr × Obj)} {x d fx : Addr} {uid : Int} {t0 : Tok} {b e f : Value} {fvs : List Value} {n : Nat} {fl : List Str} (h : LetterO w x d (.int uid t0) b (.ref fx) e f l) (hs : ∀ q ∈ l, q ∈ news) (hf : (fx, tupO fvs n) ∈ news) (hfl : StrsAre fvs fl) : LetterIn w news x uid fl := by
  obtain ⟨t1, t2, t3, t4, t5, k, rfl⟩ := h
  exact ⟨d, fx, t0, t1, t2, t3, t4, t5, b, e, f, fvs, k, n, hs _ (List.mem_cons_self ..), hs _ (List.mem_cons_of_mem _ (List.mem_cons_self ..)), hf, hfl⟩
theorem Split.tab0 {C S M M' R : Led} {x : Addr × Obj} (h : Split C S M R) (hm : MOff M' (x :: (C ++ (S ++ R)))) : Split C S M' R :=
  h.tab (ex := []) (fun q hq r hr => hm q hq r (List.mem_cons_of_mem _ hr)) fun _ _ _ h => (nomatch h)
section
variable {prog : Program} {w : World} {A : Around} {E : Value → Shared → Prop} {s : Shared} {h₀ : Heap} {L a b : Addr} {news : List (Addr × Obj)} {xs ys : List Value} {ns : List Int} {ka kb : Nat} {Q : Value → Shared → Prop}
theorem ne_same (N : News h₀ L s.heap news) (ma : (a, listOf xs.toArray ka) ∈ news) (mb : (b, listOf ys.toArray kb) ∈ news) (hx : IntsAre xs ns) (hy : IntsAre ys ns) (hu : A.units + 64 < cLine) (h : Q (.bool false) s) : wpAny (model prog w) A (compareOp .NotEq (.ref a) (.ref b)) Q E s := by
  refine kqd_ne N ma rfl rfl (dat_ints (news := news) hx) (fun _ h => h) mb rfl rfl (dat_ints (news := news) hy) (fun _ h => h) ok_ints ok_ints hu ?_
  have e' : ∀ (i : Decidable (ns.map Dat.int = ns.map Dat.int)), (!@decide _ i) = false := fun i => by rw [decide_eq_true (p := ns.map Dat.int = ns.map Dat.int) rfl]; rfl
  rw [e']
  exact h
end
section
variable {α : Type} {C S M R X ex : List α} {x y : α}
theorem p_R2 : ∀ q ∈ R, q ∈ C ++ (S ++ R) := fun q h => by simp [h]
theorem p_tabi : ∀ q ∈ C ++ (S ++ (M ++ R)), q ∈ M ++ x :: (C ++ (S ++ R)) := by
  intro q hq
  simp only [List.mem_append, List.mem_cons] at hq ⊢
  rcases hq with h | h | h | h <;> simp [h]
theorem p_R3 : ∀ q ∈ R, q ∈ M ++ x :: (C ++ (S ++ R)) := fun q h => by simp [h]
theorem p_D3 : x ∈ M ++ x :: X := by simp
theorem p_list : ∀ q ∈ C ++ (S ++ (M ++ x :: (ex ++ R))), q ∈ x :: (ex ++ (C ++ (S ++ (M ++ R)))) := by
  intro q hq
  simp only [List.mem_append, List.mem_cons] at hq ⊢
  rcases hq with h | h | h | h | h | h <;> simp [h]
end
theorem Split.drop {C S M R ex : Led} (h : Split C S M (ex ++ R)) : Split C S M R := by
  obtain ⟨h1, h2, h3, h4, h5, h6⟩ := h
  exact ⟨h1, h2, h3.right, h4, h5.right, h6.right⟩
section
variable {α : Type} {C S M R X ex : List α} {x y : α}
theorem p_R4 : ∀ q ∈ R, q ∈ M ++ x :: (C ++ (S ++ (ex ++ R))) := fun q h => by simp [h]
theorem p_fin : ∀ q ∈ C ++ (S ++ (M ++ R)), q ∈ y :: (M ++ x :: (C ++ (S ++ (ex ++ R)))) := by
  intro q hq
  simp only [List.mem_append, List.mem_cons] at hq ⊢
  rcases hq with h | h | h | h <;> simp [h]
end
/-! ### a comprehension over enumerate that draws -/
theorem mem_perm4 {α : Type} {S X : List α} {a b c d : α} : ∀ q ∈ S ++ (a :: b :: c :: d :: X), q ∈ a :: b :: c :: d :: (S ++ X) := by
  intro q hq
  simp only [List.mem_append, List.mem_cons] at hq ⊢
  rcases hq with h | h | h | h | h | h <;> simp [h]
noncomputable abbrev Off4 (p I I2 C Dd : Addr) : Prop := (@Ne Nat p I) ∧ (@Ne Nat p I2) ∧ (@Ne Nat p C) ∧ (@Ne Nat p Dd)
theorem dj_src4 {sa ca I I2 C Dd : Addr} {oI oI2 oC oD : Obj} {t t' : Int} {S S' X : Led} (hS : Src sa ca t S) (hS' : Src sa ca t' S') (hoff : ∀ p ∈ S ++ X, Off4 p.1 I I2 C Dd) (h : Dj S X) : Dj S' ((I, oI) :: (I2, oI2) :: (C, oC) :: (Dd, oD) :: X) := by
  have h1 : Dj S ((I, oI) :: (I2, oI2) :: (C, oC) :: (Dd, oD) :: X) := (((h.new fun q hq => (hoff q (List.mem_append_left _ hq)).2.2.2).new fun q hq => (hoff q (List.mem_append_left _ hq)).2.2.1).new fun q hq => (hoff q (List.mem_append_left _ hq)).2.1).new fun q hq => (hoff q (List.mem_append_left _ hq)).1
  exact (h1.symm.src hS hS').symm
inductive LeftInv (ls : List (Int × Int × List Str)) (sa ca : Addr) (tt : Int) (R X0 : Led) (us : List (Nat × Value)) (ys : List Value) (n : Led) : Prop
  | mk (t1 : Int) (S1 : Led) (l1 l2 : List (Int × Int × List Str)) (vs2 : List Value) (fs : List Int) (z0 : ls = l1 ++ l2) (z1 : us = zipN l1.length vs2) (z2 : DatAll R vs2 (l2.map letD)) (z3 : n = S1 ++ X0) (z4 : Src sa ca t1 S1) (z5 : tt ≤ t1) (z6 : t1 + l2.length ≤ tt + 7) (z7 : IntsAre ys fs) (z8 : (l2 = [] → ∀ l, l1.getLast? = some l → l.1 ∈ fs)) : LeftInv ls sa ca tt R X0 us ys n
theorem left_next {ls : List (Int × Int × List Str)} {sa ca : Addr} {tt t1 : Int} {R X0 S1 : Led} {l : Int × Int × List Str} {l1 l2 : List (Int × Int × List Str)} {vs2 ys : List Value} {fs : List Int} (h : ls = l1 ++ l :: l2) (hd : DatAll R vs2 (l2.map letD)) (hS : Src sa ca t1 S1) (h0 : tt ≤ t1) (h1 : t1 + l2.length ≤ tt + 7) (hy : IntsAre ys fs) (hin : l2 = [] → l.1 ∈ fs) :
    LeftInv ls sa ca tt R X0 (zipN (l1.length + 1) vs2) ys (S1 ++ X0) :=
  ⟨t1, S1, l1 ++ [l], l2, vs2, fs, by rw [h, List.append_assoc]; rfl, by rw [List.length_append]; rfl, hd, rfl, hS, h0, h1, hy, fun e l' hl' => by
    rw [List.getLast?_concat] at hl'
    cases hl'
    exact hin e⟩
theorem ints_snoc {ys : List Value} {fs : List Int} {x : Int} {t : Tok} (h : IntsAre ys fs) : IntsAre (ys ++ [.int x t]) (fs ++ [x]) := h.append (.cons _ _ .nil)
/-- the law's end -/
inductive Done (g : Heap) (L : Addr) (s₀ s' : Shared) : Prop
  | mk (h' : Heap) (tk' : Nat) (m : Str → Option Value) (z0 : s' = { s₀ with heap := h', toks := tk' }) (z1 : Fr g L h' m) (ps) (z2 : h'.get? 790 = some (tabObj ps)) : Done g L s₀ s'
theorem list_of_14 {α : Type} {d : α} : ∀ {b : List α}, b.length = 14 → b = [b[0]?.getD d, b[1]?.getD d, b[2]?.getD d, b[3]?.getD d, b[4]?.getD d, b[5]?.getD d, b[6]?.getD d, b[7]?.getD d, b[8]?.getD d, b[9]?.getD d, b[10]?.getD d, b[11]?.getD d, b[12]?.getD d, b[13]?.getD d]
  | [_, _, _, _, _, _, _, _, _, _, _, _, _, _], _ => rfl
noncomputable def lawAll : List Stmt := [lawSt 0, lawSt 1, lawSt 2, lawSt 3, lawSt 4, lawSt 5, lawSt 6, lawSt 7, lawSt 8, lawSt 9, lawSt 10, lawSt 11, lawSt 12, lawSt 13]
theorem enter_law {w : World} {qual : Str} {body : List Stmt} {scope : Scope} {dp un : Nat} {gd : Option (List Code)} {L f : Addr} {cd : Value} {outer : List Env} {s : Shared} {Q : Flow → Shared → Prop} {E : Value → Shared → Prop}
    (e3 : body = lawBody) (e4 : qual = Str.ofString "law") (e5 : scope = lawScope) (hl : body.length = 14)
    (h : wpAny (model (OpenRow.toRowW (OpenLaw.row PySem.Challenge.rw_pq0955_01)).prog w) (lawA dp un gd L f cd outer) (execs lawAll (lawE L f cd)) Q E s) :
    wpAny (model (OpenRow.toRowW (OpenLaw.row PySem.Challenge.rw_pq0955_01)).prog w) (ktrTop dp un gd qual scope L f cd (cellsFrom (L + 1) scope.names []) outer) (execs body (envOfC qual scope L f cd)) Q E s := by
  subst e3
  subst e4
  subst e5
  have e6 : lawBody = lawAll := list_of_14 hl
  rw [e6]
  exact h

end
section
variable {w : World} {p : Program} {loose : List Str} {mean : ExcName → Option Value} {mg mb : Str → Option Value}
/-! ### a loop over two lists side by side -/
theorem all_obj : ∀ {ws : List (Addr × String)} {k : List (Addr × Obj) → Prop}, (∀ its : List (Addr × Obj), its.map (·.1) = ws.map (·.1) → k its) → AllObj ws k
  | [], _, h => h [] rfl
  | w :: _, _, h => fun o _ => all_obj fun its e => h ((w.1, o) :: its) (by rw [List.map_cons, e, List.map_cons])
section
variable {prog : Program} {w : World} {A : Around} {E : Value → Shared → Prop} {s : Shared} {env : Env} {h₀ : Heap} {body : List Stmt} {Q : Flow → Shared → Prop} {elts : List Expr} {kk : Nat} {pos : Pos}
noncomputable abbrev offL (n its : List (Addr × Obj)) : Prop := ∀ p ∈ n, ∀ q ∈ its, p.1 ≠ q.1
theorem zip_rest {lo : List (Addr × Obj)} {ws : List (Addr × String)} (l : List (Str × Value)) (D : List Value → List Value → List (Addr × Obj) → Prop) (hk : ∀ r q n, D r q n → SubL lo n)
    (zero : ∀ r q m n h tk, (r = [] ∨ q = []) → D r q n → Fr h₀ env.locals h (fun y => mOn l m y) → News h₀ env.locals h n → Q .next { s with heap := h, toks := tk })
    (turn : ∀ its x y r q m n h tk T, offL n its → D (x :: r) (y :: q) n → IsTup h T #[x, y] → Fr h₀ env.locals h (fun y => mOn l m y) → News h₀ env.locals h (its ++ n) →
      wpAny (model prog w) A (assign (.Tuple elts kk pos) env (.ref T)) (fun _ s₂ => wpAny (model prog w) A (execs body env) (UnrPostW h₀ env.locals { s with heap := h, toks := tk } its (fun m' n' => Keep l m' ∧ D r q n' ∧ offL n' its) Q) E s₂) E { s with heap := h, toks := tk }) :
    ∀ (xs ys : List Value) (m : Str → Option Value) (n : List (Addr × Obj)), Keep l m → D xs ys n → (∀ p ∈ n, p.1 ∉ ws.map (·.1)) → ItemsRest prog w A E h₀ env (.Tuple elts kk pos) body Q s ws lo (zipItems xs ys) m n
  | [], q, m, n, km, d, _ => fun h tk F N => zero [] q m n h tk (.inl rfl) d (fr_on F km) N
  | x :: r, [], m, n, km, d, _ => fun h tk F N => zero (x :: r) [] m n h tk (.inr rfl) d (fr_on F km) N
  | x :: r, y :: q, m, n, km, d, off => fun v h tk ha F => all_obj fun its e N => by
    obtain ⟨T, t, rfl, hT⟩ := ha
    have ho : offL n its := fun p hp q hq e' => off p hp (by rw [← e, e']; exact List.mem_map_of_mem hq)
    refine wpAny_mono (turn its x y r q m n h tk T ho d hT (fr_on F km) N) (fun _ s₂ h₂ => wpAny_mono h₂ (fun f s₃ p => ?_) fun _ _ x => x) fun _ _ x => x
    have up : UnrEndW h₀ env.locals { s with heap := h, toks := tk } its (fun m' n' => Keep l m' ∧ D r q n' ∧ offL n' its) s₃ → UnrEndW h₀ env.locals { s with heap := h, toks := tk } its (fun m' n' => SubL lo n' ∧ ItemsRest prog w A E h₀ env (.Tuple elts kk pos) body Q s ws lo (zipItems r q) m' n') s₃ := by
      rintro ⟨h', tk', m', news', e', F', N', off', km', d', o'⟩
      exact ⟨h', tk', m', news', e', F', N', off', hk _ _ _ d', zip_rest l D hk zero turn r q m' news' km' d' fun p hp hm => by
        rw [← e] at hm
        obtain ⟨z, hz, e2⟩ := List.mem_map.mp hm
        exact o' p hp z hz e2.symm⟩
    cases f with
    | ret v => exact p
    | brk => exact p
    | next => exact up p
    | cont => exact up p
theorem zip_inv {l1 l2 : Addr} {xs ys : List Value} {n1 n2 : Nat} {m₀ : Str → Option Value} {news : List (Addr × Obj)} (l : List (Str × Value)) (D : List Value → List Value → List (Addr × Obj) → Prop)
    (hh : A.handled = none) (F : Fr h₀ env.locals s.heap m₀) (N : News h₀ env.locals s.heap news) (ha : (l1, listOf xs.toArray n1) ∈ news) (hb : (l2, listOf ys.toArray n2) ∈ news) (hm : Keep l m₀) (hD : D xs ys news)
    (hk : ∀ r q n, D r q n → SubL [(l1, listOf xs.toArray n1), (l2, listOf ys.toArray n2)] n)
    (zero : ∀ r q m n h tk, (r = [] ∨ q = []) → D r q n → Fr h₀ env.locals h (fun y => mOn l m y) → News h₀ env.locals h n → Q .next { s with heap := h, toks := tk })
    (turn : ∀ its x y r q m n h tk T, offL n its → D (x :: r) (y :: q) n → IsTup h T #[x, y] → Fr h₀ env.locals h (fun y => mOn l m y) → News h₀ env.locals h (its ++ n) →
      wpAny (model prog w) A (assign (.Tuple elts kk pos) env (.ref T)) (fun _ s₂ => wpAny (model prog w) A (execs body env) (UnrPostW h₀ env.locals { s with heap := h, toks := tk } its (fun m' n' => Keep l m' ∧ D r q n' ∧ offL n' its) Q) E s₂) E { s with heap := h, toks := tk }) :
    wpAny (model prog w) A (call (.type "zip") [.ref l1, .ref l2]) (fun xv s₁ => wpAny (model prog w) A (pyIter xv) (fun it s₂ => TurnsAt prog w A h₀ env (.Tuple elts kk pos) body Q E it s₂) E s₁) E s :=
  ktu_zip hh F N ha rfl rfl hb rfl rfl fun I hI => zip_rest l D hk zero turn xs ys m₀ news hm hD fun p hp hm => by
    have := hI p hp
    simp only [List.map_cons, List.map_nil, List.mem_cons, List.not_mem_nil, or_false] at hm
    have this' : @LT.lt Nat _ p.1 I := this
    rcases hm with e | e | e | e | e <;> rw [e] at this' <;> omega
end

end
section
variable {w : World} {p : Program} {loose : List Str} {mean : ExcName → Option Value} {mg mb : Str → Option Value}
theorem split_first {L : Addr} {o1 o2 o3 o4 o : Obj} {S : Led} (hL : @LT.lt Nat _ 790 L) (h : Apart S (cl4 L o1 o2 o3 o4 ++ [(790, o)])) : Split (cl4 L o1 o2 o3 o4) S [(790, o)] [] := by
  have h' : Dj S (cl4 L o1 o2 o3 o4 ++ [(790, o)]) := h
  refine ⟨h'.left.symm, fun p hp q hq => ?_, fun _ _ _ h => (nomatch h), h'.right, fun _ _ _ h => (nomatch h), fun _ _ _ h => (nomatch h)⟩
  rw [List.mem_singleton.mp hq]
  simp only [List.mem_cons, List.not_mem_nil, or_false] at hp
  rcases hp with rfl | rfl | rfl | rfl <;> (show @Ne Nat _ _; omega)
set_option maxRecDepth 100000 in
set_option maxHeartbeats 8000000 in
theorem law_s0 {dp un : Nat} {gd : Option (List Code)} {outer : List Env} {A₀ : Around} {base g : Heap} {L f : Addr} {cd : Value} {s₀ s : Shared} (B : Below A₀ base outer g) (X : (heapK w.params).In g) (T : Top p loose mean mg mb g) (hd : dp + 30 < 1000) (hu : un + 8 * 30 + 400 < 9900) {a : Addr} {vs : List Value} {ns : List Int} {h : Heap} {tk : Nat} {m : Str → Option Value} {o1 o2 o3 o4 : Obj} (hi : IntsAre vs ns) (hsz : vs.length ≤ 1000) (hl : g.IsList a vs.toArray) (hL : @LT.lt Nat _ 790 L)
    (F : Fr g L h m) (hm : m (Str.ofString "script") = some (.ref a)) (N : News g L h (cl4 L o1 o2 o3 o4 ++ [(790, tabObj #[])])) (d1 : ∃ v, o1.data = .cell v) (d2 : ∃ v, o2.data = .cell v) (d3 : ∃ v, o3.data = .cell v) (d4 : ∃ v, o4.data = .cell v) (hs : s = { s₀ with heap := h, toks := tk }) :
    wpAny (model (OpenRow.toRowW (OpenLaw.row PySem.Challenge.rw_pq0955_01)).prog w) (lawA dp un gd L f cd outer) (exec (lawSt 0) (lawE L f cd)) (Nx (LawSt g L 0 (fun _ _ _ _ _ => True) s₀)) (fun _ _ => False) s := by
  subst hs
  obtain ⟨v1, d1⟩ := d1
  k_data
  refine' enter_st (k := 0) ?o9 ?h9 ?_
  case o9 => k_is
  case h9 => exact rfl
  k_fold
  replace F := fr_on (l := [(Str.ofString "script", .ref a)]) F ⟨hm, trivial⟩
  simp only [mOn] at F
  repeat ((fail_if_success (with_reducible show wpAny _ _ (call (Value.ref 825) _) _ _ _)); (first | walk1 | (dsimp only; walk1)))
  refine' store_ct hi hsz _ _ _ _ _ _ _ _ _ _ _ _ _ _ _ _ _ hl B F X N T rfl ?_ ?_ ?_
  · exact room_d hd (by decide)
  · exact room_u hu (by decide)
  rintro _ _ h9 tk9 ⟨sa, ca, S, rfl, rfl, hS, hne, hap⟩ F9 N9
  have hsp := split_first hL hap
  have N2 := drop_ N9 (news := cl4 L o1 o2 o3 o4 ++ (S ++ ([(790, tabObj #[])] ++ []))) (p_in (X := [(790, tabObj #[])]))
  clear N9 N F
  have hc := hsp.c1
  replace N2 : News g L h9 ((L + 1, o1) :: ((L + 1 + 1, o2) :: (L + 1 + 1 + 1, o3) :: (L + 1 + 1 + 1 + 1, o4) :: (S ++ ([(790, tabObj #[])] ++ [])))) := N2
  generalize hY : ((L + 1 + 1, o2) :: (L + 1 + 1 + 1, o3) :: (L + 1 + 1 + 1 + 1, o4) :: (S ++ ([(790, tabObj #[])] ++ [])) : Led) = Y at N2 hc
  k_steps
  rename_i h8 o8 F8 N8 d8
  subst hY
  exact ⟨rfl, LawSt.mk' F8 N8 (fun _ h => h) hS hne (.inl rfl) hsp.cell (by omega) (by omega) d8 d2 d3 d4 trivial⟩

end
section
variable {w : World} {p : Program} {loose : List Str} {mean : ExcName → Option Value} {mg mb : Str → Option Value}
local macro_rules | `(tactic| walk_at "zz") => `(tactic| fail "zz")
set_option maxRecDepth 100000 in
set_option maxHeartbeats 8000000 in
theorem law_s1 {dp un : Nat} {gd : Option (List Code)} {outer : List Env} {A₀ : Around} {base g : Heap} {L f : Addr} {cd : Value} {s₀ s : Shared} (B : Below A₀ base outer g) (X : (heapK w.params).In g) (T : Top p loose mean mg mb g) (hd : dp + 30 < 1000) (hu : un + 8 * 30 + 400 < 9900)
    (h0 : LawSt g L 0 (fun _ _ _ _ _ => True) s₀ s) :
    wpAny (model (OpenRow.toRowW (OpenLaw.row PySem.Challenge.rw_pq0955_01)).prog w) (lawA dp un gd L f cd outer) (exec (lawSt 1) (lawE L f cd)) (Nx fun s' => ∃ ls, LetsGood ls ∧ LawSt g L 22 (fun _ o2 _ _ R => KL ls o2 R) s₀ s') (fun _ _ => False) s := by
  obtain ⟨h, tk, m, o1, o2, o3, o4, sa, ca, t, S, M, R, rfl, F, N, hS, hne, hM, hsp, t0, t1, d1, ⟨v2, d2⟩, d3, d4, _⟩ := h0
  k_data
  refine' enter_st (k := 1) ?o9 ?h9 ?_
  case o9 => k_is
  case h9 => exact rfl
  k_fold
  have m1 : (L + 1, o1) ∈ cl4 L o1 o2 o3 o4 ++ (S ++ (M ++ R)) := by simp
  repeat ((fail_if_success (with_reducible show wpAny _ _ (call (Value.ref 837) _) _ _ _)); (first | walk1 | (dsimp only; walk1)))
  refine' ct_useU u_src (letters_ct (rest := cl4 L o1 o2 o3 o4 ++ (M ++ R)) hS hne (hsp.off hS) t0 (by omega)) ?_ (hs := p_in) (F := F) (N := N)
  rintro h9 tk9 F9 _ t' S' ex hS' b1 b2 b3 b4 ⟨D, lvs, k, ls, rfl, hm, hda, hg⟩ N9
  have hsp' := hsp.src hS hS' b3 b4
  have N2 := drop_ (drop_ N9 p_out) p_c2
  have hc := hsp'.c2
  clear N9 N F
  generalize hY : ((L + 1, o1) :: (L + 1 + 1 + 1, o3) :: (L + 1 + 1 + 1 + 1, o4) :: (S' ++ (M ++ (ex ++ R))) : Led) = Y at N2 hc
  k_steps
  rename_i h8 o8 F8 N8 d8
  subst hY
  exact ⟨rfl, ls, hg, LawSt.mk' F8 N8 p_c2' hS' hne hM hsp'.cell (by omega) (by omega) d1 ⟨_, d8⟩ d3 d4 ⟨D, lvs, k, d8, List.mem_append_left _ hm, hda.mono fun q hq => List.mem_append_left _ hq⟩⟩

end
section
variable {w : World} {p : Program} {loose : List Str} {mean : ExcName → Option Value} {mg mb : Str → Option Value}
set_option maxRecDepth 100000 in
set_option maxHeartbeats 8000000 in
theorem law_s2 {dp un : Nat} {gd : Option (List Code)} {outer : List Env} {A₀ : Around} {base g : Heap} {L f : Addr} {cd : Value} {s₀ s : Shared} (B : Below A₀ base outer g) (X : (heapK w.params).In g) (T : Top p loose mean mg mb g) (hd : dp + 30 < 1000) (hu : un + 8 * 30 + 400 < 9900) {ls : List (Int × Int × List Str)}
    (h0 : LawSt g L 22 (fun _ o2 _ _ R => KL ls o2 R) s₀ s) :
    wpAny (model (OpenRow.toRowW (OpenLaw.row PySem.Challenge.rw_pq0955_01)).prog w) (lawA dp un gd L f cd outer) (exec (lawSt 2) (lawE L f cd)) (Nx fun s' => ∃ t : Mine.T, t.ok ∧ t.depth ≤ 2 ∧ LawSt g L 49 (fun m o2 _ _ R => KL ls o2 R ∧ KT t m R) s₀ s') (fun _ _ => False) s := by
  obtain ⟨h, tk, m, o1, o2, o3, o4, sa, ca, t, S, M, R, rfl, F, N, hS, hne, hM, hsp, t0, t1, d1, d2, d3, d4, kl⟩ := h0
  k_data
  refine' enter_st (k := 2) ?o9 ?h9 ?_
  case o9 => k_is
  case h9 => exact rfl
  k_fold
  have m1 : (L + 1, o1) ∈ cl4 L o1 o2 o3 o4 ++ (S ++ (M ++ R)) := by simp
  repeat ((fail_if_success (with_reducible show wpAny _ _ (call (Value.ref 847) _) _ _ _)); (first | walk1 | (dsimp only; walk1)))
  refine' ct_useU u_src (TreeAt.use tree_ct (rest := cl4 L o1 o2 o3 o4 ++ (M ++ R)) hS hne (hsp.off hS) t0 (by omega)) ?_ (hs := p_in) (F := F) (N := N)
  rintro h9 tk9 F9 r9 t' S' ex hS' b1 b2 b3 b4 ⟨tr, hok, hdp, hda⟩ N9
  have hsp' := hsp.src hS hS' b3 b4
  have N2 := drop_ N9 p_out
  clear N9 N F
  k_steps
  rename_i h8 F8 N8
  exact ⟨rfl, tr, hok, by omega, LawSt.mk' F8 N8 (fun _ h => h) hS' hne hM hsp' (by omega) (by omega) d1 d2 d3 d4 ⟨kl.mono fun q hq => List.mem_append_right _ hq, r9, rfl, hda.mono fun q hq => List.mem_append_left _ hq⟩⟩

end
section
local macro_rules | `(tactic| walk_at "eval ListComp") => `(tactic| ((rename Fr _ _ _ _ => lF'); (first | ((with_reducible show wpAny _ _ (eval (PySem.Expr.ListComp _ [⟨_, _, [], 0⟩] _ _) _) _ _ _); k_dflt (refine' ListComp_G (ct := none) lF' ?c1 ?c2 ?c3 ?c4 ?_)) | ((with_reducible show wpAny _ _ (eval (PySem.Expr.ListComp _ [⟨_, _, [_], 0⟩] _ _) _) _ _ _); k_dflt (refine' ListComp_G (ct := some _) lF' ?c1 ?c2 ?c3 ?c4 ?_))); (case c1 => k_dflt (exact rfl)); (case c2 => k_dflt decide); (case c3 => k_dflt (exact rfl)); (case c4 => k_dflt decide)))
local macro_rules | `(tactic| walk_at "exec Assign cons ListComp") => `(tactic| ((rename Fr _ _ _ _ => lF'); (first | ((with_reducible show wpAny _ _ (exec (PySem.Stmt.Assign _ (PySem.Expr.ListComp _ [⟨_, _, [], 0⟩] _ _) _) _) _ _ _); k_dflt (refine' Assign_ListComp_G (ct := none) lF' ?c0 ?cs ?c1 ?c2 ?c3 ?c4 ?c5 ?c6 ?_)) | ((with_reducible show wpAny _ _ (exec (PySem.Stmt.Assign _ (PySem.Expr.ListComp _ [⟨_, _, [_], 0⟩] _ _) _) _) _ _ _); k_dflt (refine' Assign_ListComp_G (ct := some _) lF' ?c0 ?cs ?c1 ?c2 ?c3 ?c4 ?c5 ?c6 ?_))); (case c0 => k_dflt (exact rfl)); (case cs => k_dflt (exact rfl)); (case c1 => k_dflt (exact rfl)); (case c2 => k_dflt decide); (case c3 => k_dflt (exact rfl)); (case c4 => k_dflt decide); (case c5 => k_dflt (exact rfl)); (case c6 => k_dflt (exact rfl))))

section
variable {w : World} {p : Program} {loose : List Str} {mean : ExcName → Option Value} {mg mb : Str → Option Value}
set_option maxRecDepth 100000 in
set_option maxHeartbeats 8000000 in
theorem law_s3 {dp un : Nat} {gd : Option (List Code)} {outer : List Env} {A₀ : Around} {base g : Heap} {L f : Addr} {cd : Value} {s₀ s : Shared} (B : Below A₀ base outer g) (X : (heapK w.params).In g) (T : Top p loose mean mg mb g) (hd : dp + 30 < 1000) (hu : un + 8 * 30 + 400 < 9900) {ls : List (Int × Int × List Str)} {t : Mine.T} (hok : LetsOk ls)
    (h0 : LawSt g L 49 (fun m o2 _ _ R => KL ls o2 R ∧ KT t m R) s₀ s) :
    wpAny (model (OpenRow.toRowW (OpenLaw.row PySem.Challenge.rw_pq0955_01)).prog w) (lawA dp un gd L f cd outer) (exec (lawSt 3) (lawE L f cd)) (Nx (LawSt g L 49 (fun m o2 _ _ R => KL ls o2 R ∧ KT t m R ∧ KR w ls m R) s₀)) (fun _ _ => False) s := by
  obtain ⟨h, tk, m, o1, o2, o3, o4, sa, ca, tt, S, M, R, rfl, F, N, hS, hne, hM, hsp, t0, t1, d1, d2, d3, d4, kl, kt⟩ := h0
  obtain ⟨la, lvs, k, e2, ml, hl⟩ := id kl
  k_data
  refine' enter_st (k := 3) ?o9 ?h9 ?_
  case o9 => k_is
  case h9 => exact rfl
  k_fold
  have m2 : (L + 1 + 1, o2) ∈ cl4 L o1 o2 o3 o4 ++ (S ++ (M ++ R)) := by simp
  have m3 : (la, listOf lvs.toArray k) ∈ cl4 L o1 o2 o3 o4 ++ (S ++ (M ++ R)) := p_R _ ml
  have hR : ∀ q ∈ R, q ∈ cl4 L o1 o2 o3 o4 ++ (S ++ (M ++ R)) := p_R
  generalize hX : cl4 L o1 o2 o3 o4 ++ (S ++ (M ++ R)) = X0 at *
  repeat ((fail_if_success (with_reducible show wpAny _ _ (pyIter _) _ _ _)); (first | walk1 | (dsimp only; walk1)))
  rename_i F
  refine' src_list (BTup [Str.ofString "number", Str.ofString "uid", Str.ofString "flags"]) (JV fun us ys n => ∃ l1 l2 ex, ls = l1 ++ l2 ∧ n = ex ++ X0 ∧ Apart ex X0 ∧ DatAll R us (l2.map letD) ∧ RowsIn w (ex ++ R) ys l1)
    rfl F N m3 (by rw [dat_len hl, List.length_map]; exact Nat.le_trans hok.1 (by decide)) (takes_tup [(Str.ofString "number", _), (Str.ofString "uid", _), (Str.ofString "flags", _)] rfl rfl (fun _ => rfl) (by decide +kernel) (by decide) ?hD) ⟨lvs, rfl, [], ls, [], rfl, rfl, Apart.nil, hl, trivial⟩ ?_ ?_ ?_
  case hD =>
    rintro v r ys n ⟨l1, l2, ex, _, rfl, _, hus, _⟩
    cases l2 with
    | nil => cases hus
    | cons l l2 =>
    obtain ⟨v', r', e', hv, hr⟩ := dat_cons hus
    obtain ⟨rfl, rfl⟩ := List.cons.inj e'
    obtain ⟨a, u1, u2, fx, k', fvs, k2, rfl, h1, _, _⟩ := dat_let hv
    exact ⟨a, _, k', rfl, sub_app _ (hR _ h1), rfl⟩
  · rintro r ys n ⟨us, _, l1, l2, ex, _, rfl, _⟩
    exact sub_app _ m3
  · intro g0
    refine turns_val fun v r ys n I oI C oC Dd m₂ h tk E' hD hB F hI hoC N hne hoff => ?_
    obtain ⟨l1, l2, ex, hls, rfl, hap, hus, hys⟩ := hD
    cases l2 with
    | nil => cases hus
    | cons l l2 =>
    obtain ⟨v', r', e', hv, hr⟩ := dat_cons hus
    obtain ⟨rfl, rfl⟩ := List.cons.inj e'
    obtain ⟨a, u1, u2, fx, k', fvs, k2, rfl, h1, h2, h3⟩ := dat_let hv
    have hb := hB a _ k' rfl (sub_app (ex := ex) _ (hR _ h1))
    obtain ⟨b1, b2, b3, _⟩ := hb
    have h2' := sub_app (ex := ex) _ (hR _ h2)
    simp only [Tst, if_true]
    repeat ((fail_if_success (with_reducible show wpAny _ _ (call (Value.ref 130) _) _ _ _)); (first | walk1 | (dsimp only; walk1)))
    refine' ct_useU u_new (letter_new ?hm7) ?_
    case hm7 => k_mem
    intro _ _ _ _ _ _ _ _ _ _
    try dsimp only
    repeat ((fail_if_success (with_reducible show wpAny _ _ (call (Value.ref 685) _) _ _ _)); (first | walk1 | (dsimp only; walk1)))
    refine' ct_useU u_new (seen_new) ?_
    intro _ _ _ _ _ _ _ _ _ _
    try dsimp only
    k_steps
    rename_i h8 tk8 F8 xl dl l8 hs8 ho8 hlt8 N8 h7 tk7 F7 xs ds l7 hs7 ho7 hlt7 N7
    have hap7 := seen_apart hs7 ho7 hlt7
    have hapN : Apart (l7 ++ l8) ((I, oI) :: (C, oC) :: (Dd, LCg.lst ys) :: (ex ++ X0)) := (hap7.sub (fun q hq => List.mem_append_right _ hq)).app (letter_apart hs8 ho8 hlt8)
    refine cend_new (l := l7 ++ l8) F7 (by rw [List.append_assoc]; exact N7) hoC hapN hoff ⟨l1 ++ [l], l2, (l7 ++ l8) ++ ex, by rw [List.append_assoc]; exact hls, (List.append_assoc ..).symm, (hapN.sub (fun q hq => by simp [hq])).app hap, hr, ?_⟩
    have hrow : RowIn w ((l7 ++ l8) ++ (ex ++ R)) (.ref xs) l.1 l.2.1 l.2.2 := seen_row hs7 (fun q hq => by simp [hq]) (letter_in hs8 (fun q hq => by simp [hq]) (List.mem_append_right _ (List.mem_append_right _ h2)) h3)
    have := (hys.mono (sub_app (ex := l7 ++ l8))).app (vs' := [.ref xs]) (rs' := [l]) ⟨hrow, trivial⟩
    rw [← List.append_assoc] at this
    exact this
  · intro g0 ys n hJ D h tk F N hoff
    obtain ⟨us, e, l1, l2, ex, hls, rfl, hap, hus, hys⟩ := hJ
    have := map_val_nil e
    subst this
    cases l2 with
    | cons l l2 => cases hus
    | nil =>
    rw [List.append_nil] at hls
    subst hls
    subst hX
    show Nx _ _ _
    refine ⟨rfl, LawSt.mk' (R := (D, listOf ys.toArray ys.length) :: (ex ++ R)) F N (fun q hq => ?_) hS hne hM ((hsp.add hap).new fun q hq => hoff q (p_add q hq)) t0 t1 d1 d2 d3 d4 ⟨kl.mono fun q hq => by simp [hq], kt.mono rfl fun q hq => by simp [hq], D, ys, ys.length, rfl, List.mem_cons_self .., hys.mono fun q hq => List.mem_cons_of_mem _ hq⟩⟩
    rcases List.mem_cons.mp (p_new q hq) with rfl | hq
    · exact List.mem_cons_self ..
    · exact List.mem_cons_of_mem _ (p_add q hq)

end
section
variable {w : World} {p : Program} {loose : List Str} {mean : ExcName → Option Value} {mg mb : Str → Option Value}
local macro_rules | `(tactic| k_mem) => `(tactic| ((repeat (refine List.mem_cons_of_mem _ ?_)); refine List.mem_append_right _ ?_; (repeat (refine List.mem_cons_of_mem _ ?_)); with_reducible assumption))
local macro_rules | `(tactic| walk_at "call builtin:len") => `(tactic| ((with_reducible show wpAny _ _ (call (Value.builtin _) [Value.ref _]) _ _ _); k_dflt (refine' len_list ?N ?m ?l ?_; (case N => k_asm); (case m => k_mem); (case l => omega)); intro t9 tk9))
local macro_rules | `(tactic| walk_at "call ref") => `(tactic| ((with_reducible show wpAny _ _ (call (Value.ref 832) _) _ _ _); refine' ct_useU u_taken (taken_ct ?S ?ne ?off ?l ?l2 ?t ?t2) ?_ (hs := ?s); (case S => assumption); (case ne => assumption); (case off => assumption); (case l => decide); (case l2 => decide); (case t => first | ((repeat refine nn1 ?_) <;> assumption) | omega); (case t2 => omega); (case s => first | assumption | exact fun _ h => h); (intro h9 tk9 F9 d9 u9 S9 h09 h19 hS9 N9); (try dsimp only)))
set_option maxRecDepth 100000 in
set_option maxHeartbeats 8000000 in
theorem law_s6 {dp un : Nat} {gd : Option (List Code)} {outer : List Env} {A₀ : Around} {base g : Heap} {L f : Addr} {cd : Value} {s₀ s : Shared} (B : Below A₀ base outer g) (X : (heapK w.params).In g) (T : Top p loose mean mg mb g) (hd : dp + 30 < 1000) (hu : un + 8 * 30 + 400 < 9900) {ls : List (Int × Int × List Str)} {t : Mine.T} {fd : List Int} (hls : LetsGood ls)
    (h0 : LawSt g L 49 (fun m o2 _ _ R => KL ls o2 R ∧ KT t m R ∧ KR w ls m R ∧ KI "due" fd m R) s₀ s) :
    wpAny (model (OpenRow.toRowW (OpenLaw.row PySem.Challenge.rw_pq0955_01)).prog w) (lawA dp un gd L f cd outer) (exec (lawSt 6) (lawE L f cd)) (Nx fun s' => ∃ lf : List Int, (∀ l, ls.getLast? = some l → l.1 ∈ lf) ∧ LawSt g L 56 (fun m o2 o3 _ R => KL ls o2 R ∧ KT t m R ∧ KR w ls m R ∧ KI "due" fd m R ∧ KF lf o3 R) s₀ s') (fun _ _ => False) s := by
  obtain ⟨h, tk, m, o1, o2, o3, o4, sa, ca, tt, S, M, R, rfl, F, N, hS, hne, hM, hsp, t0, t1, d1, d2, ⟨v3, d3⟩, d4, kl, kt, kr, kd⟩ := h0
  obtain ⟨la, lvs, k, e2, ml, hl⟩ := id kl
  have hlv : lvs.length = ls.length := by rw [dat_len hl, List.length_map]
  have hln : ls.length ≤ 7 := hls.1
  k_data
  refine' enter_st (k := 6) ?o9 ?h9 ?_
  case o9 => k_is
  case h9 => exact rfl
  k_fold
  replace N := drop_ N p_in
  have c1 : (L + 1, o1) ∈ cl4 L o1 o2 o3 o4 ++ (M ++ R) := by simp
  have c2 : (L + 1 + 1, o2) ∈ cl4 L o1 o2 o3 o4 ++ (M ++ R) := by simp
  have hR : ∀ q ∈ R, q ∈ cl4 L o1 o2 o3 o4 ++ (M ++ R) := fun q h => by simp [h]
  have hdj : Dj S (cl4 L o1 o2 o3 o4 ++ (M ++ R)) := hsp.1.symm.app (hsp.2.2.2.1.app hsp.2.2.2.2.1)
  have mc1 := sub_app (ex := S) _ c1
  have mc2 := sub_app (ex := S) _ c2
  generalize hX : cl4 L o1 o2 o3 o4 ++ (M ++ R) = X0 at *
  repeat ((fail_if_success (with_reducible show wpAny _ _ (call (Value.type "enumerate") _) _ _ _)); (first | walk1 | (dsimp only; walk1)))
  rename_i F
  refine' src_enumL (fun a _ m => PairIs (Str.ofString "at") (Str.ofString "letter") a m) (JI ePair (LeftInv ls sa ca tt R X0))
    rfl F N (sub_app _ (hR _ ml)) (by omega) (takes_pair (fun _ => trivial) rfl rfl (fun _ => rfl) (by decide +kernel) (by decide)) ⟨zipN 0 lvs, rfl, tt, S, [], ls, lvs, [], rfl, rfl, hl, rfl, hS, by omega, by omega, .nil, fun _ _ h => nomatch h⟩ ?_ ?_ ?_
  · rintro r ys n ⟨us, _, t1, S1, l1, l2, vs2, fs, _, _, _, rfl, _⟩
    exact sub_app _ (hR _ ml)
  · intro IE gE
    refine turns_two (f1 := fun _ => IE + 1) (f2 := fun _ => IE) fun u r ys n' J1 J2 oJ1 oJ2 C oC Dd m₂ h tk E' hD hB F hI1 hI2 hoC N hoff => ?_
    obtain ⟨t2, S1, l1, l2, vs2, fs, hdr, hus, hda, rfl, hS1, b1, b2, hys, _⟩ := hD
    cases l2 with
    | nil => obtain rfl := dat_nil hda; cases hus
    | cons l l2 =>
    obtain ⟨v, vs3, rfl, hv, hr⟩ := dat_cons hda
    rw [zipN_cons] at hus
    obtain ⟨rfl, rfl⟩ := List.cons.inj hus
    obtain ⟨⟨ta, hat⟩, hle⟩ := hB
    obtain ⟨a, u1, u2, fx, k', fvs, k2, rfl, h1, h2, h3⟩ := dat_let hv
    have h1' := hR _ h1
    dsimp only [ePair] at hat hle
    have hll : ls.length = l1.length + (l2.length + 1) := by rw [hdr, List.length_append, List.length_cons]
    simp only [List.length_cons] at b2
    have hdj1 : Dj S1 X0 := (hdj.symm.src hS hS1).symm
    have hr2 : Off2 sa ca ((J1, oJ1) :: (J2, oJ2) :: (C, oC) :: (Dd, LCg.lst ys) :: X0) := off_dj hS1 (dj_src4 hS1 hS1 hoff hdj1).symm
    have hp4 : ∀ q ∈ S1 ++ ((J1, oJ1) :: (J2, oJ2) :: (C, oC) :: (Dd, LCg.lst ys) :: X0), q ∈ (J1, oJ1) :: (J2, oJ2) :: (C, oC) :: (Dd, LCg.lst ys) :: (S1 ++ X0) := mem_perm4
    replace N := drop_ N hp4
    have mla := hR _ ml
    simp only [Tst]
    have hoffX : ∀ p ∈ X0, Off4 p.1 J1 J2 C Dd := fun p hp => hoff p (List.mem_append_right _ hp)
    k_steps
    · exact cend_two (l := S1) F N hoC (dj_src4 hS1 hS1 hoff hdj1) hoffX (left_next hdr hr hS1 b1 (by omega) (ints_snoc hys) fun _ => by simp)
    · rename_i h9 tk9 F9 d9 u9 S9 h09 h19 hS9 N9 hc9
      exact cend_two (l := S9) F9 N9 hoC (dj_src4 hS1 hS9 hoff hdj1) hoffX (left_next hdr hr hS9 (by omega) (by omega) (ints_snoc hys) fun _ => by simp)
    · rename_i h9 tk9 F9 d9 u9 S9 h09 h19 hS9 N9 hc9
      exact cend_two (l := S9) F9 N9 hoC (dj_src4 hS1 hS9 hoff hdj1) hoffX (left_next hdr hr hS9 (by omega) (by omega) hys fun e => by subst e; simp only [List.length_nil] at hll; exfalso; omega)
  · intro gE ys n' hJ D h tk F N hoff2
    obtain ⟨us, e, t2, S1, l1, l2, vs2, fs, hdr, hus, hda, rfl, hS1, b1, b2, hys, hlast⟩ := hJ
    have := map_itm_nil e
    subst this
    cases vs2 with
    | cons => cases hus
    | nil =>
    cases l2 with
    | cons => cases hda
    | nil =>
    rw [List.append_nil] at hdr
    subst hdr
    subst hX
    have hsp' := (hsp.draw hS hS1).new (D := D) (o := listOf ys.toArray ys.length) (fun q hq => hoff2 q (p_in q hq))
    have N2 : News g L h ((L + 1 + 1 + 1, o3) :: (L + 1, o1) :: (L + 1 + 1, o2) :: (L + 1 + 1 + 1 + 1, o4) :: (S1 ++ (M ++ ((D, listOf ys.toArray ys.length) :: R)))) := drop_ N fun q hq => by
      rcases List.mem_cons.mp (p_new q (p_c3 q hq)) with rfl | hq
      · exact List.mem_cons_self ..
      · exact List.mem_cons_of_mem _ (p_in q hq)
    have hc := hsp'.c3
    clear N
    generalize hY : ((L + 1, o1) :: (L + 1 + 1, o2) :: (L + 1 + 1 + 1 + 1, o4) :: (S1 ++ (M ++ ((D, listOf ys.toArray ys.length) :: R))) : Led) = Y at N2 hc
    k_steps
    rename_i h8 o8 F8 N8 d8
    subst hY
    exact ⟨rfl, fs, hlast rfl, LawSt.mk' F8 N8 p_c3' hS1 hne hM hsp'.cell (by omega) (by simp at b2; omega) d1 d2 ⟨_, d8⟩ d4 ⟨kl.mono fun q hq => List.mem_cons_of_mem _ hq, kt.mono rfl fun q hq => List.mem_cons_of_mem _ hq, kr.mono rfl fun q hq => List.mem_cons_of_mem _ hq, kd.mono rfl fun q hq => List.mem_cons_of_mem _ hq, D, ys, ys.length, d8, List.mem_cons_self .., hys⟩⟩

end
section
variable {w : World} {p : Program} {loose : List Str} {mean : ExcName → Option Value} {mg mb : Str → Option Value}
theorem in_ints {prog : Program} {w : World} {A : Around} {E : Value → Shared → Prop} {s : Shared} {l : Addr} {vs : List Value} {ns : List Int} {k : Int} {t : Tok} {Q : Value → Shared → Prop} (hl : s.heap.IsList l vs.toArray) (hi : IntsAre vs ns)
    (h1 : k ∈ ns → Q (.bool true) s) (h2 : k ∉ ns → Q (.bool false) s) : wpAny (model prog w) A (compareOp .In (.int k t) (.ref l)) Q E s := by
  refine in_list_ints hl hi ?_
  have e : ns.any (· == k) = decide (k ∈ ns) := by rw [Bool.eq_iff_iff]; simp
  rw [e]
  by_cases h : k ∈ ns
  · rw [decide_eq_true h]; exact h1 h
  · rw [decide_eq_false h]; exact h2 h
set_option maxRecDepth 100000 in
set_option maxHeartbeats 8000000 in
theorem law_s7 {dp un : Nat} {gd : Option (List Code)} {outer : List Env} {A₀ : Around} {base g : Heap} {L f : Addr} {cd : Value} {s₀ s : Shared} (B : Below A₀ base outer g) (X : (heapK w.params).In g) (T : Top p loose mean mg mb g) (hd : dp + 30 < 1000) (hu : un + 8 * 30 + 400 < 9900) {ls : List (Int × Int × List Str)} {t : Mine.T} {lf : List Int} (hok : t.ok) (hdp : t.depth ≤ 2) (hls : LetsOk ls) (hgd : ∀ l ∈ ls, LGood l) (hlast : ∀ l, ls.getLast? = some l → l.1 ∈ lf)
    (h0 : LawSt g L 56 (fun m o2 o3 _ R => KL ls o2 R ∧ KT t m R ∧ KR w ls m R ∧ KI "due" (dueL false t ls) m R ∧ KF lf o3 R) s₀ s) :
    wpAny (model (OpenRow.toRowW (OpenLaw.row PySem.Challenge.rw_pq0955_01)).prog w) (lawA dp un gd L f cd outer) (exec (lawSt 7) (lawE L f cd)) (Nx (LawSt g L 56 (fun m o2 _ _ R => KL ls o2 R ∧ KT t m R ∧ KR w ls m R ∧ KI "due" (dueL false t ls) m R) s₀)) (fun _ _ => False) s := by
  obtain ⟨h, tk, m, o1, o2, o3, o4, sa, ca, tt, S, M, R, rfl, F, N, hS, hne, hM, hsp, t0, t1, d1, d2, d3, d4, kl, kt, kr, kd, kf⟩ := h0
  obtain ⟨tv, et, ht⟩ := id kt
  obtain ⟨ra, rvs, k2, er, mr, hr⟩ := id kr
  obtain ⟨da, dvs, k3, ed, md, hd'⟩ := id kd
  obtain ⟨fa, fvs, k4, e3, mf, hf⟩ := kf
  have hrl : rvs.length ≤ 100 := by rw [hr.len]; exact Nat.le_trans hls.1 (by decide)
  have hdl : dvs.length ≤ 100 := by
    rw [hd'.length]
    refine Nat.le_trans (?_ : _ ≤ ls.length) (Nat.le_trans hls.1 (by decide))
    unfold dueL
    rw [List.length_map]
    exact List.length_filter_le ..
  replace F := fr_on (l := [(Str.ofString "tree", tv), (Str.ofString "rows", .ref ra), (Str.ofString "due", .ref da)]) F ⟨et, er, ed, trivial⟩
  simp only [mOn] at F
  k_data
  refine' enter_st (k := 7) ?o9 ?h9 ?_
  case o9 => k_is
  case h9 => exact rfl
  k_fold
  have m3 : (L + 1 + 1 + 1, o3) ∈ cl4 L o1 o2 o3 o4 ++ (S ++ (M ++ R)) := by simp
  have hR : ∀ q ∈ R, q ∈ cl4 L o1 o2 o3 o4 ++ (S ++ (M ++ R)) := p_R
  have mf' := hR _ mf
  have md' := hR _ md
  generalize hX : cl4 L o1 o2 o3 o4 ++ (S ++ (M ++ R)) = X0 at *
  repeat ((fail_if_success (with_reducible show wpAny _ _ (pyIter _) _ _ _)); (first | walk1 | (dsimp only; walk1)))
  rename_i F
  refine' src_list (BN (Str.ofString "row")) (JV fun us ys n => ∃ l1 l2, ls = l1 ++ l2 ∧ n = X0 ∧ RowsIn w R us l2 ∧ RowsIn w R ys (l1.filter fun l => decide (l.1 ∈ lf)))
    rfl F N (hR _ mr) (Nat.le_trans hrl (by decide)) (takes_name rfl (by decide +kernel)) ⟨rvs, rfl, [], ls, rfl, rfl, hr, trivial⟩ ?_ ?_ ?_
  · rintro r ys n ⟨us, _, l1, l2, _, rfl, _⟩
    exact hR _ mr
  · intro g0
    refine turns_val fun v r ys n I oI C oC Dd m₂ h tk E' hD hB F hI hoC N5 hne hoff => ?_
    obtain ⟨l1, l2, hll, rfl, hus, hys⟩ := hD
    have hx := hB v rfl
    match l2, hus with
    | l :: l2, hus =>
    obtain ⟨lx, ⟨sx, sd, s0, s1, s2, s3, k2, rfl, q1, q2⟩, hL⟩ := hus.1
    have q1 := hR _ q1
    have q2 := hR _ q2
    simp only [Tst]
    k_steps
    have mf5 := List.mem_cons_of_mem (I, oI) (List.mem_cons_of_mem (C, oC) (List.mem_cons_of_mem (Dd, LCg.lst ys) mf'))
    refine in_ints (News.isList (by k_asm) mf5) hf (fun hb => ?_) fun hb => ?_
    · k_steps
      exact cend_new (l := []) (by k_asm) (by k_asm) hoC (fun _ h => nomatch h) hoff ⟨l1 ++ [l], l2, by rw [List.append_assoc]; exact hll, rfl, hus.2, by rw [List.filter_append, List.filter_cons_of_pos (by simpa using hb)]; exact hys.app ⟨hus.1, trivial⟩⟩
    · k_steps
      exact cend_new (l := []) (by k_asm) (by k_asm) hoC (fun _ h => nomatch h) hoff ⟨l1 ++ [l], l2, by rw [List.append_assoc]; exact hll, rfl, hus.2, by rw [List.filter_append, List.filter_cons_of_neg (by simpa using hb), List.filter_nil, List.append_nil]; exact hys⟩
  · intro g0 ys n hJ D h tk F N5 hoff
    obtain ⟨us, e, l1, l2, hll, rfl, hus, hys⟩ := hJ
    have := map_val_nil e
    subst this
    match l2, hus with
    | [], _ =>
    rw [List.append_nil] at hll
    subst hll
    subst hX
    have hsp1 := hsp.new (o := listOf ys.toArray ys.length) hoff
    have N1 : News g L h (cl4 L o1 o2 o3 o4 ++ (S ++ (M ++ ((D, listOf ys.toArray ys.length) :: R)))) := drop_ N5 p_new
    clear N N5
    have hyl : ys.length ≤ 100 := by rw [hys.len]; exact Nat.le_trans (List.length_filter_le ..) (Nat.le_trans hls.1 (by decide))
    repeat ((fail_if_success (with_reducible show wpAny _ _ (call (Value.ref 807) _) _ _ _)); (first | walk1 | (dsimp only; walk1)))
    refine' ct_useU u_search (search_ct (rest := cl4 L o1 o2 o3 o4 ++ (S ++ ((D, listOf ys.toArray ys.length) :: R))) hM hsp1.moff (p_R2 _ (List.mem_cons_self ..)) (hys.mono fun q hq => p_R2 q (List.mem_cons_of_mem _ hq)) hyl (ht.mono fun q hq => p_R2 q (List.mem_cons_of_mem _ hq)) hok hdp) ?_ (hs := p_tab) (F := F) (N := N1)
    rintro h9 tk9 F9 D9 ys9 k9 M1 hM1 hys9 hmo1 hnew N9
    rw [search_left hlast, search_due hok hgd] at hys9
    have hsp2 := hsp1.tab0 hmo1
    clear F N1
    repeat ((fail_if_success (with_reducible show wpAny _ _ (pyIter _) _ _ _)); (first | walk1 | (dsimp only; walk1)))
    rename_i F9
    have md2 := p_R4 (ex := [(D, listOf ys.toArray ys.length)]) (x := (D9, listOf ys9.toArray k9)) (M := M1) (C := cl4 L o1 o2 o3 o4) (S := S) _ md
    have mf2 := p_R4 (ex := [(D, listOf ys.toArray ys.length)]) (x := (D9, listOf ys9.toArray k9)) (M := M1) (C := cl4 L o1 o2 o3 o4) (S := S) _ mf
    have mD2 : (D9, listOf ys9.toArray k9) ∈ M1 ++ (D9, listOf ys9.toArray k9) :: (cl4 L o1 o2 o3 o4 ++ (S ++ ([(D, listOf ys.toArray ys.length)] ++ R))) := p_D3
    have m32 : (L + 1 + 1 + 1, o3) ∈ M1 ++ (D9, listOf ys9.toArray k9) :: (cl4 L o1 o2 o3 o4 ++ (S ++ ([(D, listOf ys.toArray ys.length)] ++ R))) := by simp
    replace N9 : News g L h9 (M1 ++ (D9, listOf ys9.toArray k9) :: (cl4 L o1 o2 o3 o4 ++ (S ++ ([(D, listOf ys.toArray ys.length)] ++ R)))) := N9
    clear m3 mf' md' hR
    generalize hX : M1 ++ (D9, listOf ys9.toArray k9) :: (cl4 L o1 o2 o3 o4 ++ (S ++ ([(D, listOf ys.toArray ys.length)] ++ R))) = X1 at N9 md2 mf2 mD2 m32
    refine' src_list (BN (Str.ofString "number")) (JV fun us zs n => n = X1 ∧ ∃ xs rs : List Int, dueL false t ls = xs ++ rs ∧ IntsAre us rs ∧ IntsAre zs (xs.filter fun n => decide (n ∈ lf)))
      rfl F9 N9 md2 (Nat.le_trans hdl (by decide)) (takes_name rfl (by decide +kernel)) ⟨dvs, rfl, rfl, [], _, rfl, hd', .nil⟩ ?_ ?_ ?_
    · rintro r zs n ⟨us, _, rfl, _⟩
      exact md2
    · intro g1
      refine turns_val fun v r zs n I oI C oC Dd m₂ h tk E' hD hB F hI hoC N5 hne hoff => ?_
      obtain ⟨rfl, xs, rs, hxr, hus, hzs⟩ := hD
      have hx := hB v rfl
      cases hus with | @cons x tx _ rs' hus' =>
      simp only [Tst]
      k_steps
      have mf5 := List.mem_cons_of_mem (I, oI) (List.mem_cons_of_mem (C, oC) (List.mem_cons_of_mem (Dd, LCg.lst zs) mf2))
      refine in_ints (News.isList (by k_asm) mf5) hf (fun hb => ?_) fun hb => ?_
      · k_steps
        exact cend_new (l := []) (by k_asm) (by k_asm) hoC (fun _ h => nomatch h) hoff ⟨rfl, xs ++ [x], rs', by rw [List.append_assoc]; exact hxr, hus', by rw [List.filter_append, List.filter_cons_of_pos (by simpa using hb)]; exact hzs.append (.cons _ _ .nil)⟩
      · k_steps
        exact cend_new (l := []) (by k_asm) (by k_asm) hoC (fun _ h => nomatch h) hoff ⟨rfl, xs ++ [x], rs', by rw [List.append_assoc]; exact hxr, hus', by rw [List.filter_append, List.filter_cons_of_neg (by simpa using hb), List.filter_nil, List.append_nil]; exact hzs⟩
    · intro g1 zs n hJ D8 h tk F8 N8 hoff8
      obtain ⟨us, e, rfl, xs, rs, hxr, hus, hzs⟩ := hJ
      have := map_val_nil e
      subst this
      cases hus
      rw [List.append_nil] at hxr
      subst hxr
      repeat ((fail_if_success (with_reducible show wpAny _ _ (compareOp _ _ _) _ _ _)); (first | walk1 | (dsimp only; walk1)))
      refine ne_same N8 (List.mem_cons_of_mem _ mD2) (List.mem_cons_self ..) hys9 hzs (by ke_room) ?_
      subst hX
      have N7 := drop_ N8 p_fin
      clear N8
      k_steps
      exact ⟨rfl, LawSt.mk' (by k_asm) N7 (fun _ h => h) hS hne hM1 (hsp2.drop (ex := [(D, listOf ys.toArray ys.length)])) t0 t1 d1 d2 ⟨_, e3⟩ d4 ⟨kl, kt.mono et.symm fun _ h => h, kr.mono er.symm fun _ h => h, kd.mono ed.symm fun _ h => h⟩⟩

end
section
variable {w : World} {p : Program} {loose : List Str} {mean : ExcName → Option Value} {mg mb : Str → Option Value}
local macro_rules | `(tactic| walk_at "zz") => `(tactic| fail "zz")
set_option maxRecDepth 100000 in
set_option maxHeartbeats 8000000 in
theorem law_s12 {dp un : Nat} {gd : Option (List Code)} {outer : List Env} {A₀ : Around} {base g : Heap} {L f : Addr} {cd : Value} {s₀ s : Shared} (B : Below A₀ base outer g) (X : (heapK w.params).In g) (T : Top p loose mean mg mb g) (hd : dp + 30 < 1000) (hu : un + 8 * 30 + 400 < 9900) {ns : List Int} {mk : Int} (q0 : 0 ≤ mk) (q1 : mk < 16)
    (h0 : LawSt g L 63 (fun m _ _ o4 R => KI "numbers" ns m R ∧ ∃ u, o4.data = .cell (some (.int mk u))) s₀ s) :
    wpAny (model (OpenRow.toRowW (OpenLaw.row PySem.Challenge.rw_pq0955_01)).prog w) (lawA dp un gd L f cd outer) (exec (lawSt 12) (lawE L f cd)) (Nx fun s' => ∃ ws : List Str, ws.length ≤ 40 ∧ LawSt g L 63 (fun m _ _ _ R => KI "numbers" ns m R ∧ KWd ws m R) s₀ s') (fun _ _ => False) s := by
  obtain ⟨h, tk, m, o1, o2, o3, o4, sa, ca, tt, S, M, R, rfl, F, N, hS, hne, hM, hsp, t0, t1, d1, d2, d3, d4, ki, um, e4⟩ := h0
  k_data
  refine' enter_st (k := 12) ?o9 ?h9 ?_
  case o9 => k_is
  case h9 => exact rfl
  k_fold
  have m4 : (L + 1 + 1 + 1 + 1, o4) ∈ cl4 L o1 o2 o3 o4 ++ (S ++ (M ++ R)) := by simp
  generalize hX : cl4 L o1 o2 o3 o4 ++ (S ++ (M ++ R)) = X0 at *
  repeat ((fail_if_success (with_reducible show wpAny _ _ (call (Value.type "enumerate") _) _ _ _)); (first | walk1 | (dsimp only; walk1)))
  rename_i D5 h5 F5 N5 l5
  have hw0 : ∃ vs : List Value, ∃ k5, tupO vs k5 = (⟨.type "tuple", none, .seq #[Value.str (Str.ofString "COUNT") tk, Value.str (Str.ofString "ALL") (tk + 1), Value.str (Str.ofString "MAX") (tk + 1 + 1), Value.str (Str.ofString "MIN") (tk + 1 + 1 + 1)] 0, #[]⟩ : Obj) ∧ k5 = 0 ∧ ∃ xs, StrsAre vs xs ∧ vs.length = 4 :=
    ⟨[_, _, _, _], 0, rfl, rfl, _, .cons _ _ (.cons _ _ (.cons _ _ (.cons _ _ .nil))), rfl⟩
  obtain ⟨vs, k5, hv5, hk5, xs0, hxs0, hvl⟩ := hw0
  replace N5 : News g L h5 ((D5, tupO vs k5) :: X0) := by rw [hv5]; exact N5
  clear hv5
  have hzl : ∀ r ∈ zipN 0 vs, r.1 < 4 := fun r hr => by
    obtain ⟨q, hq, rfl⟩ := List.mem_map.mp hr
    have := (List.mem_zipIdx hq)
    omega
  refine' src_enumT (keep := [(D5, tupO vs k5)]) (vs := vs) (fun a _ m => PairIs (Str.ofString "at") (Str.ofString "word") a m) (JI ePair fun rs ys n' => n' = (D5, tupO vs k5) :: X0 ∧ (∀ r ∈ rs, r.1 < 4) ∧ ∃ xs ws : List Str, StrsAre (rs.map (·.2)) xs ∧ StrsAre ys ws ∧ ws.length + xs.length ≤ 4)
    rfl F5 N5 (News.isTup N5 (List.mem_cons_self ..)) (.inl ⟨_, List.mem_singleton.mpr rfl⟩) (Ne.symm (N5 _ (List.mem_cons_self ..)).2.1) (by omega) (takes_pair (fun _ => trivial) rfl rfl (fun _ => rfl) (by decide +kernel) (by decide)) ⟨zipN 0 vs, rfl, rfl, hzl, xs0, [], ?h1, .nil, ?h2⟩ ?_ ?_ ?_
  case h1 => 
    have : (zipN 0 vs).map (·.2) = vs := by unfold zipN; rw [List.map_map]; exact List.zipIdx_map_fst 0 vs
    rw [this]; exact hxs0
  case h2 => rw [← hxs0.length, hvl]; exact Nat.le_refl _
  · rintro r ys n ⟨us, _, rfl, _⟩ q hq
    rw [List.mem_singleton.mp hq]
    exact List.mem_cons_self ..
  · intro IE gE
    refine turns_two (f1 := fun _ => IE + 1) (f2 := fun _ => IE) fun u r ys n' J1 J2 oJ1 oJ2 C oC Dd m₂ h tk E' hD hB F hI1 hI2 hoC N hoff => ?_
    obtain ⟨rfl, hlt, xs, ws, hxs, hws, hwl⟩ := hD
    obtain ⟨ui, uv⟩ := u
    cases hxs with | @cons x tx _ xs' hxs' =>
    obtain ⟨⟨ta, hat⟩, hle⟩ := hB
    dsimp only [ePair] at hat hle
    have hui : ui < 4 := hlt (ui, _) (List.mem_cons_self ..)
    have hui0 : (0 : Int) ≤ (ui : Int) := by omega
    have hui1 : (ui : Int) ≤ 5 := by omega
    have m4' := List.mem_cons_of_mem (D5, tupO vs k5) m4
    simp only [Tst]
    k_steps
    · exact cend_two (l := []) (by k_asm) (by k_asm) hoC (fun _ h => nomatch h) hoff ⟨rfl, fun r' hr' => hlt r' (List.mem_cons_of_mem _ hr'), xs', ws ++ [x], hxs', strsAre_append hws (.cons _ _ .nil), by simp only [List.length_append, List.length_cons, List.length_nil] at hwl ⊢; omega⟩
    · exact cend_two (l := []) (by k_asm) (by k_asm) hoC (fun _ h => nomatch h) hoff ⟨rfl, fun r' hr' => hlt r' (List.mem_cons_of_mem _ hr'), xs', ws, hxs', hws, by simp only [List.length_cons] at hwl ⊢; omega⟩
  · intro gE ys n' hJ D h tk F N hoff2
    obtain ⟨us, e, rfl, _, xs, ws, _, hws, hwl⟩ := hJ
    subst hX
    show Nx _ _ _
    refine ⟨rfl, ws, by omega, LawSt.mk' (R := (D, listOf ys.toArray ys.length) :: R) F N (fun q hq => ?_) hS hne hM (hsp.new fun q hq => hoff2 q (List.mem_cons_of_mem _ hq)) t0 t1 d1 d2 d3 d4 ⟨ki.mono rfl fun q hq => List.mem_cons_of_mem _ hq, D, ys, _, rfl, List.mem_cons_self .., hws⟩⟩
    rcases List.mem_cons.mp (p_new q hq) with rfl | hq
    · exact List.mem_cons_self ..
    · exact List.mem_cons_of_mem _ (List.mem_cons_of_mem _ hq)

end
end
section
variable {w : World} {p : Program} {loose : List Str} {mean : ExcName → Option Value} {mg mb : Str → Option Value}
set_option maxRecDepth 100000 in
set_option maxHeartbeats 8000000 in
theorem law_s4 {dp un : Nat} {gd : Option (List Code)} {outer : List Env} {A₀ : Around} {base g : Heap} {L f : Addr} {cd : Value} {s₀ s : Shared} (B : Below A₀ base outer g) (X : (heapK w.params).In g) (T : Top p loose mean mg mb g) (hd : dp + 30 < 1000) (hu : un + 8 * 30 + 400 < 9900) {ls : List (Int × Int × List Str)} {t : Mine.T} (hok : t.ok) (hdp : t.depth ≤ 2) (hls : LetsOk ls)
    (h0 : LawSt g L 49 (fun m o2 _ _ R => KL ls o2 R ∧ KT t m R ∧ KR w ls m R) s₀ s) :
    wpAny (model (OpenRow.toRowW (OpenLaw.row PySem.Challenge.rw_pq0955_01)).prog w) (lawA dp un gd L f cd outer) (exec (lawSt 4) (lawE L f cd)) (Nx (LawSt g L 49 (fun m o2 _ _ R => KL ls o2 R ∧ KT t m R ∧ KR w ls m R ∧ KI "due" (dueL false t ls) m R) s₀)) (fun _ _ => False) s := by
  obtain ⟨h, tk, m, o1, o2, o3, o4, sa, ca, tt, S, M, R, rfl, F, N, hS, hne, hM, hsp, t0, t1, d1, d2, d3, d4, kl, kt, kr⟩ := h0
  obtain ⟨la, lvs, k, e2, ml, hl⟩ := id kl
  obtain ⟨tv, et, ht⟩ := id kt
  replace F := fr_on (l := [(Str.ofString "tree", tv)]) F ⟨et, trivial⟩
  simp only [mOn] at F
  k_data
  refine' enter_st (k := 4) ?o9 ?h9 ?_
  case o9 => k_is
  case h9 => exact rfl
  k_fold
  have m2 : (L + 1 + 1, o2) ∈ cl4 L o1 o2 o3 o4 ++ (S ++ (M ++ R)) := by simp
  repeat ((fail_if_success (with_reducible show wpAny _ _ (call (Value.ref 862) _) _ _ _)); (first | walk1 | (dsimp only; walk1)))
  refine' ct_useU u_due (due_ct false (p_R _ ml) (ht.mono p_R) hok hdp hls (hl.mono p_R)) ?_ (F := F) (N := N)
  rintro h9 tk9 F9 D ys k9 hnew hys N9
  have hsp' := hsp.new (o := listOf ys.toArray k9) hnew
  have N2 := drop_ N9 p_new
  clear N9 N F
  k_steps
  rename_i h8 F8 N8
  exact ⟨rfl, LawSt.mk' F8 N8 (fun _ h => h) hS hne hM hsp' t0 t1 d1 d2 d3 d4 ⟨kl.mono fun q hq => List.mem_cons_of_mem _ hq, kt.mono et.symm fun q hq => List.mem_cons_of_mem _ hq, kr.mono rfl fun q hq => List.mem_cons_of_mem _ hq, D, ys, k9, rfl, List.mem_cons_self .., hys⟩⟩

end
section
variable {w : World} {p : Program} {loose : List Str} {mean : ExcName → Option Value} {mg mb : Str → Option Value}
local macro_rules | `(tactic| walk_at "zz") => `(tactic| fail "zz")
set_option maxRecDepth 100000 in
set_option maxHeartbeats 8000000 in
theorem law_s5 {dp un : Nat} {gd : Option (List Code)} {outer : List Env} {A₀ : Around} {base g : Heap} {L f : Addr} {cd : Value} {s₀ s : Shared} (B : Below A₀ base outer g) (X : (heapK w.params).In g) (T : Top p loose mean mg mb g) (hd : dp + 30 < 1000) (hu : un + 8 * 30 + 400 < 9900) {ls : List (Int × Int × List Str)} {t : Mine.T} (hok : t.ok) (hdp : t.depth ≤ 2) (hls : LetsOk ls) (hgd : ∀ l ∈ ls, LGood l)
    (h0 : LawSt g L 49 (fun m o2 _ _ R => KL ls o2 R ∧ KT t m R ∧ KR w ls m R ∧ KI "due" (dueL false t ls) m R) s₀ s) :
    wpAny (model (OpenRow.toRowW (OpenLaw.row PySem.Challenge.rw_pq0955_01)).prog w) (lawA dp un gd L f cd outer) (exec (lawSt 5) (lawE L f cd)) (Nx (LawSt g L 49 (fun m o2 _ _ R => KL ls o2 R ∧ KT t m R ∧ KR w ls m R ∧ KI "due" (dueL false t ls) m R) s₀)) (fun _ _ => False) s := by
  obtain ⟨h, tk, m, o1, o2, o3, o4, sa, ca, tt, S, M, R, rfl, F, N, hS, hne, hM, hsp, t0, t1, d1, d2, d3, d4, kl, kt, kr, kd⟩ := h0
  obtain ⟨la, lvs, k, e2, ml, hl⟩ := id kl
  obtain ⟨tv, et, ht⟩ := id kt
  obtain ⟨ra, rvs, k2, er, mr, hr⟩ := id kr
  obtain ⟨da, dvs, k3, ed, md, hd'⟩ := id kd
  have hrl : rvs.length ≤ 100 := by rw [hr.len]; exact Nat.le_trans hls.1 (by decide)
  replace F := fr_on (l := [(Str.ofString "tree", tv), (Str.ofString "rows", .ref ra), (Str.ofString "due", .ref da)]) F ⟨et, er, ed, trivial⟩
  simp only [mOn] at F
  have m2 : (L + 1 + 1, o2) ∈ cl4 L o1 o2 o3 o4 := by simp
  k_data
  refine' enter_st (k := 5) ?o9 ?h9 ?_
  case o9 => k_is
  case h9 => exact rfl
  k_fold
  repeat ((fail_if_success (with_reducible show wpAny _ _ (call (Value.ref 807) _) _ _ _)); (first | walk1 | (dsimp only; walk1)))
  refine' ct_useU u_search (search_ct (rest := cl4 L o1 o2 o3 o4 ++ (S ++ R)) hM hsp.moff (p_R2 _ mr) (hr.mono p_R2) hrl (ht.mono p_R2) hok hdp) ?_ (hs := p_tab) (F := F) (N := N)
  rintro h9 tk9 F9 D ys k9 M1 hM1 hys hmo1 hnew N9
  rw [search_due hok hgd] at hys
  have hsp1 := hsp.tab0 hmo1
  clear F N
  repeat ((fail_if_success (with_reducible show wpAny _ _ (compareOp _ _ _) _ _ _)); (first | walk1 | (dsimp only; walk1)))
  refine ne_same N9 p_D3 (p_R3 _ md) hys hd' (by ke_room) ?_
  have N8 := drop_ N9 p_tabi
  clear N9
  repeat ((fail_if_success (with_reducible show wpAny _ _ (call (Value.ref 819) _) _ _ _)); (first | walk1 | (dsimp only; walk1)))
  refine' ct_useU u_rows (byuid_ct (R0 := R) p_R (p_R _ mr) hr hrl) ?_ (F := F9) (N := N8)
  rintro h8 tk8 F8 U us k8 ex hap8 hus N7
  have hsp2 : Split (cl4 L o1 o2 o3 o4) S M1 ((U, listOf us.toArray k8) :: ex ++ R) := hsp1.add hap8
  have N6 : News g L h8 (cl4 L o1 o2 o3 o4 ++ (S ++ (M1 ++ ((U, listOf us.toArray k8) :: ex ++ R)))) := drop_ N7 p_list
  clear N7 N8 F9
  have hul : us.length ≤ 100 := by rw [hus.len, List.length_map]; exact Nat.le_trans hls.1 (by decide)
  repeat ((fail_if_success (with_reducible show wpAny _ _ (call (Value.ref 807) _) _ _ _)); (first | walk1 | (dsimp only; walk1)))
  refine' ct_useU u_search (search_ct (rest := cl4 L o1 o2 o3 o4 ++ (S ++ ((U, listOf us.toArray k8) :: ex ++ R))) hM1 hsp2.moff (p_R2 _ (List.mem_cons_self ..)) (hus.mono fun q hq => p_R2 q (List.mem_cons_of_mem _ hq)) hul (ht.mono fun q hq => p_R2 q (List.mem_append_right _ hq)) hok hdp) ?_ (hs := p_tab) (F := F8) (N := N6)
  rintro h5 tk5 F5 D5 ys5 k5 M5 hM5 hys5 hmo5 hnew5 N5
  rw [search_dueU hok hgd] at hys5
  have hsp5 := hsp2.tab0 hmo5
  clear F8 N6
  repeat ((fail_if_success (with_reducible show wpAny _ _ (call (Value.ref 862) _) _ _ _)); (first | walk1 | (dsimp only; walk1)))
  refine' ct_useU u_due (due_ct true (p_R4 _ ml) (ht.mono p_R4) hok hdp hls (hl.mono p_R4)) ?_ (F := F5) (N := N5)
  rintro h4 tk4 F4 D4 ys4 k4 hnew4 hys4 N4
  clear F5 N5
  repeat ((fail_if_success (with_reducible show wpAny _ _ (compareOp _ _ _) _ _ _)); (first | walk1 | (dsimp only; walk1)))
  refine ne_same N4 (List.mem_cons_of_mem _ p_D3) (List.mem_cons_self ..) hys5 hys4 (by ke_room) ?_
  have N3 := drop_ N4 p_fin
  clear N4
  k_steps
  exact ⟨rfl, LawSt.mk' F4 N3 (fun _ h => h) hS hne hM5 hsp5.drop t0 t1 d1 d2 d3 d4 ⟨kl, kt.mono et.symm fun _ h => h, kr.mono er.symm fun _ h => h, kd.mono ed.symm fun _ h => h⟩⟩

end
section
variable {w : World} {p : Program} {loose : List Str} {mean : ExcName → Option Value} {mg mb : Str → Option Value}
local macro_rules | `(tactic| walk_at "zz") => `(tactic| fail "zz")
theorem p_newS {α : Type} {C S M R : List α} {x : α} : ∀ q ∈ C ++ (S ++ (M ++ (x :: R))), q ∈ x :: (S ++ (C ++ (M ++ R))) := by
  intro q hq
  simp only [List.mem_append, List.mem_cons] at hq ⊢
  rcases hq with h | h | h | h | h <;> simp [h]
local macro_rules | `(tactic| walk_at "call ref") => `(tactic| ((with_reducible show wpAny _ _ (call (Value.ref 832) _) _ _ _); refine' ct_useU u_taken (taken_ct ?S ?ne ?off ?l ?l2 ?t ?t2) ?_ (hs := ?s); (case S => assumption); (case ne => assumption); (case off => assumption); (case l => decide); (case l2 => decide); (case t => first | ((repeat refine nn1 ?_) <;> assumption) | omega); (case t2 => omega); (case s => first | assumption | exact fun _ h => h); (intro h9 tk9 F9 d9 u9 S9 h09 h19 hS9 N9); (try dsimp only)))
set_option maxRecDepth 100000 in
set_option maxHeartbeats 8000000 in
theorem law_s8 {dp un : Nat} {gd : Option (List Code)} {outer : List Env} {A₀ : Around} {base g : Heap} {L f : Addr} {cd : Value} {s₀ s : Shared} (B : Below A₀ base outer g) (X : (heapK w.params).In g) (T : Top p loose mean mg mb g) (hd : dp + 30 < 1000) (hu : un + 8 * 30 + 400 < 9900) {ls : List (Int × Int × List Str)} {t : Mine.T} {fd : List Int}
    (h0 : LawSt g L 56 (fun m o2 _ _ R => KL ls o2 R ∧ KT t m R ∧ KR w ls m R ∧ KI "due" fd m R) s₀ s) :
    wpAny (model (OpenRow.toRowW (OpenLaw.row PySem.Challenge.rw_pq0955_01)).prog w) (lawA dp un gd L f cd outer) (exec (lawSt 8) (lawE L f cd)) (Nx fun s' => ∃ g2 : Int × Int, 0 ≤ g2.1 ∧ 0 ≤ g2.2 ∧ LawSt g L 60 (fun m o2 _ _ R => KL ls o2 R ∧ KT t m R ∧ KR w ls m R ∧ KI "due" fd m R ∧ KG g2 m R) s₀ s') (fun _ _ => False) s := by
  obtain ⟨h, tk, m, o1, o2, o3, o4, sa, ca, tt, S, M, R, rfl, F, N, hS, hne, hM, hsp, t0, t1, d1, d2, d3, d4, kl, kt, kr, kd⟩ := h0
  k_data
  refine' enter_st (k := 8) ?o9 ?h9 ?_
  case o9 => k_is
  case h9 => exact rfl
  k_fold
  have N0 := drop_ N p_in
  have c1 : (L + 1, o1) ∈ cl4 L o1 o2 o3 o4 ++ (M ++ R) := by simp
  have ho := hsp.off hS
  generalize hX : cl4 L o1 o2 o3 o4 ++ (M ++ R) = X0 at *
  clear N
  k_steps
  rename_i _ _ x1 _ _ a1 _ _ _ _ x2 _ _ a2 _ _ _ _ x3 _ _ a3 _ _ h4 tk4 x4 u4 S4 a4 b4 hS4 D5 h5 l5 h6 F6 N6
  subst hX
  exact ⟨rfl, (_, _), Int.mul_nonneg a1 a2, Int.mul_nonneg a3 a4, LawSt.mk' F6 N6 p_newS hS4 hne hM ((hsp.draw hS hS4).new fun q hq => Nat.ne_of_lt (l5 q (p_draw q hq))) (by omega) (by omega) d1 d2 d3 d4
    ⟨kl.mono fun q hq => List.mem_cons_of_mem _ hq, kt.mono rfl fun q hq => List.mem_cons_of_mem _ hq, kr.mono rfl fun q hq => List.mem_cons_of_mem _ hq, kd.mono rfl fun q hq => List.mem_cons_of_mem _ hq, D5, _, _, _, rfl, List.mem_cons_self ..⟩⟩

end
section
variable {w : World} {p : Program} {loose : List Str} {mean : ExcName → Option Value} {mg mb : Str → Option Value}
set_option maxRecDepth 100000 in
set_option maxHeartbeats 8000000 in
theorem law_s9 {dp un : Nat} {gd : Option (List Code)} {outer : List Env} {A₀ : Around} {base g : Heap} {L f : Addr} {cd : Value} {s₀ s : Shared} (B : Below A₀ base outer g) (X : (heapK w.params).In g) (T : Top p loose mean mg mb g) (hd : dp + 30 < 1000) (hu : un + 8 * 30 + 400 < 9900) {ls : List (Int × Int × List Str)} {t : Mine.T} {fd : List Int} {g2 : Int × Int} (hok : t.ok) (hdp : t.depth ≤ 2) (hls : LetsOk ls) (hgd : ∀ l ∈ ls, LGood l) (g0 : 0 ≤ g2.1) (g1 : 0 ≤ g2.2)
    (h0 : LawSt g L 60 (fun m o2 _ _ R => KL ls o2 R ∧ KT t m R ∧ KR w ls m R ∧ KI "due" fd m R ∧ KG g2 m R) s₀ s) :
    wpAny (model (OpenRow.toRowW (OpenLaw.row PySem.Challenge.rw_pq0955_01)).prog w) (lawA dp un gd L f cd outer) (exec (lawSt 9) (lawE L f cd)) (Nx (LawSt g L 60 (fun m _ _ _ R => KI "due" fd m R) s₀)) (fun _ _ => False) s := by
  obtain ⟨h, tk, m, o1, o2, o3, o4, sa, ca, tt, S, M, R, rfl, F, N, hS, hne, hM, hsp, t0, t1, d1, d2, d3, d4, ⟨la, lvs, kl, e2, ml, hl⟩, ⟨tv, et, ht⟩, ⟨ra, rvs, kr, er, mr, hr⟩, ⟨da, dvs, kd, ed, md, hd'⟩, ⟨ta, u1, u2, kt, eg, mt⟩⟩ := h0
  replace F := fr_on (l := [(Str.ofString "tree", tv), (Str.ofString "tops", .ref ta), (Str.ofString "due", .ref da), (Str.ofString "rows", .ref ra)]) F ⟨et, eg, ed, er, trivial⟩
  simp only [mOn] at F
  have m2 : (L + 1 + 1, o2) ∈ cl4 L o1 o2 o3 o4 ++ (S ++ (M ++ R)) := by simp
  k_data
  refine' enter_st (k := 9) ?o9 ?h9 ?_
  case o9 => k_is
  case h9 => exact rfl
  k_fold
  with_unfolding_all refine' For_turns F ?_
  repeat ((fail_if_success (with_reducible show wpAny _ _ (call (Value.type "zip") _) _ _ _)); (first | walk1 | (dsimp only; walk1)))
  refine' zip_inv (l := [(Str.ofString "tree", tv), (Str.ofString "tops", .ref ta), (Str.ofString "due", .ref da)]) (D := fun r q n => ∃ M1 l2, MT M1 ∧ Split (cl4 L o1 o2 o3 o4) S M1 R ∧ n = cl4 L o1 o2 o3 o4 ++ (S ++ (M1 ++ R)) ∧ RowsIn w R r l2 ∧ DatAll R q (l2.map letD) ∧ ∀ l ∈ l2, LGood l ∧ l.2.2.length ≤ 10 ∧ ∀ y ∈ l.2.2, y.length ≤ 60)
    ?hh ?F ?N ?a ?b ?km ?D ?_ ?_ ?_
  case hh => rfl
  case F => exact F
  case N => exact N
  case a => exact p_R _ mr
  case b => exact p_R _ ml
  case km => exact ⟨rfl, rfl, rfl, trivial⟩
  case D => exact ⟨M, ls, hM, hsp, rfl, hr, hl, fun l hm => ⟨hgd l hm, hls.2 l hm⟩⟩
  · rintro r q n ⟨M1, l2, _, _, rfl, _⟩
    exact ⟨p_R _ mr, p_R _ ml, trivial⟩
  · rintro r q m n h tk _ ⟨M1, l2, hM1, hsp1, rfl, _⟩ F N
    simp only [mOn] at F
    exact ⟨rfl, LawSt.mk' F N (fun _ h => h) hS hne hM1 hsp1 t0 t1 d1 d2 d3 d4 ⟨da, dvs, kd, rfl, md, hd'⟩⟩
  · clear F N
    rintro its x y r q m n h tk TT off ⟨M1, l2, hM1, hsp1, rfl, hrx, hlx, hgx⟩ hT F N
    simp only [mOn] at F
    change Fr g L h _ at F
    change News g L h _ at N
    cases l2 with
    | nil => cases hlx
    | cons l l2 =>
    obtain ⟨v', r', e', hv, hr2⟩ := dat_cons hlx
    obtain ⟨rfl, rfl⟩ := List.cons.inj e'
    obtain ⟨a, t1', t2', fx, k', fvs, k2, rfl, h1, h2, h3⟩ := dat_let hv
    have hgl := hgx l (List.mem_cons_self ..)
    have hmoff : MOff M1 (its ++ (cl4 L o1 o2 o3 o4 ++ (S ++ R))) := fun p hp q hq => by
      rcases List.mem_append.mp hq with hq | hq
      · exact off p (by simp [hp]) q hq
      · exact hsp1.moff p hp q hq
    have N1 : News g L h (M1 ++ (its ++ (cl4 L o1 o2 o3 o4 ++ (S ++ R)))) := drop_ N fun q hq => by
      simp only [List.mem_append] at hq ⊢
      rcases hq with h | h | h | h | h <;> simp [h]
    have hsub : ∀ q ∈ R, q ∈ its ++ (cl4 L o1 o2 o3 o4 ++ (S ++ R)) := fun q h => by simp [h]
    clear N
    repeat ((fail_if_success (with_reducible show wpAny _ _ (call (Value.ref 795) _) _ _ _)); (first | walk1 | (dsimp only; walk1)))
    have hb : evalT (fun t => leafP t l.1 l.2.1 l.2.2 g2.1 g2.2) t = lawT l.1 l.2.1 l.2.2 g2.1 g2.2 t := row_agree hok hgl.1 g0 g1
    refine' ct_useU u_match (matches_ct (rest := its ++ (cl4 L o1 o2 o3 o4 ++ (S ++ R))) hM1 hmoff (ht.mono hsub) hok hdp (hrx.1.mono hsub) (hsub _ mt)) ?_ (F := by k_asm)
    rintro h9 tk9 F9 M2 hM2 hmo2 N9
    rw [hb]
    have hsub2 : ∀ q ∈ R, q ∈ M2 ++ (its ++ (cl4 L o1 o2 o3 o4 ++ (S ++ R))) := fun q h => sub_app _ (hsub q h)
    have h1' := hsub2 _ h1
    repeat ((fail_if_success (with_reducible show wpAny _ _ (call (Value.ref 857) _) _ _ _)); (first | walk1 | (dsimp only; walk1)))
    refine' ct_useU u_eq (MetAt.use (met_ct (hv.mono hsub2) (hsub2 _ mt) hgl.2.1 hgl.2.2 2 t hok hdp) (fun _ h => h) (ht.mono hsub2)) ?_ (F := by k_asm)
    rintro h8 tk8 F8 N8
    clear N9 F9
    generalize lawT l.1 l.2.1 l.2.2 g2.1 g2.2 t = b
    k_steps
    · rename_i hbb
      exact absurd hbb (by cases b <;> decide)
    · have hofn : offL (cl4 L o1 o2 o3 o4 ++ (S ++ (M2 ++ R))) its := fun p hp q hq => by
        simp only [List.mem_append] at hp
        rcases hp with h | h | h | h
        · exact off p (by simp only [List.mem_append]; exact .inl h) q hq
        · exact off p (by simp only [List.mem_append]; exact .inr (.inl h)) q hq
        · exact hmo2 p h q (List.mem_append_left _ hq)
        · exact off p (by simp only [List.mem_append]; exact .inr (.inr (.inr h))) q hq
      exact ⟨h8, tk8, _, _, rfl, F8, fun q hq => N8 q (by
        simp only [List.mem_append] at hq ⊢
        rcases hq with h | h | h | h | h
        · exact .inr (.inl h)
        · exact .inr (.inr (.inl h))
        · exact .inr (.inr (.inr (.inl h)))
        · exact .inl h
        · exact .inr (.inr (.inr (.inr h)))), hofn, ⟨rfl, rfl, rfl, trivial⟩, ⟨M2, l2, hM2, hsp1.tab (ex := []) (fun p hp q hq => hmo2 p hp q (List.mem_append_right _ hq)) (fun _ _ _ h => nomatch h), rfl, hrx.2, hr2, fun l' h => hgx l' (List.mem_cons_of_mem _ h)⟩, hofn⟩

end
section
variable {w : World} {p : Program} {loose : List Str} {mean : ExcName → Option Value} {mg mb : Str → Option Value}
local macro_rules | `(tactic| walk_at "call ref") => `(tactic| ((with_reducible show wpAny _ _ (call (Value.ref 832) _) _ _ _); refine' ct_useU u_taken (taken_ct ?S ?ne ?off ?l ?l2 ?t ?t2) ?_ (hs := ?s); (case S => assumption); (case ne => assumption); (case off => assumption); (case l => decide); (case l2 => decide); (case t => first | ((repeat refine nn1 ?_) <;> assumption) | omega); (case t2 => omega); (case s => first | assumption | exact fun _ h => h); (intro h9 tk9 F9 d9 u9 S9 h09 h19 hS9 N9); (try dsimp only)))
set_option maxRecDepth 100000 in
set_option maxHeartbeats 8000000 in
theorem law_s10 {dp un : Nat} {gd : Option (List Code)} {outer : List Env} {A₀ : Around} {base g : Heap} {L f : Addr} {cd : Value} {s₀ s : Shared} (B : Below A₀ base outer g) (X : (heapK w.params).In g) (T : Top p loose mean mg mb g) (hd : dp + 30 < 1000) (hu : un + 8 * 30 + 400 < 9900) {fd : List Int}
    (h0 : LawSt g L 60 (fun m _ _ _ R => KI "due" fd m R) s₀ s) :
    wpAny (model (OpenRow.toRowW (OpenLaw.row PySem.Challenge.rw_pq0955_01)).prog w) (lawA dp un gd L f cd outer) (exec (lawSt 10) (lawE L f cd)) (Nx fun s' => ∃ pl mk : Int, 0 ≤ pl ∧ pl < 8 ∧ 0 ≤ mk ∧ mk < 16 ∧ LawSt g L 62 (fun m _ _ o4 R => KI "due" fd m R ∧ (∃ u, m (Str.ofString "place") = some (.int pl u)) ∧ ∃ u, o4.data = .cell (some (.int mk u))) s₀ s') (fun _ _ => False) s := by
  obtain ⟨h, tk, m, o1, o2, o3, o4, sa, ca, tt, S, M, R, rfl, F, N, hS, hne, hM, hsp, t0, t1, d1, d2, d3, ⟨v4, d4⟩, kd⟩ := h0
  k_data
  refine' enter_st (k := 10) ?o9 ?h9 ?_
  case o9 => k_is
  case h9 => exact rfl
  k_fold
  have N0 := drop_ N p_in
  have c1 : (L + 1, o1) ∈ cl4 L o1 o2 o3 o4 ++ (M ++ R) := by simp
  have ho := hsp.off hS
  generalize hX : cl4 L o1 o2 o3 o4 ++ (M ++ R) = X0 at *
  clear N
  repeat ((fail_if_success (with_reducible show wpAny _ _ (storeName _ _ _) _ _ _)); (first | walk1 | (dsimp only; walk1)))
  rename_i _ _ pl u1 _ a1 b1 _ h4 tk4 mk u4 S4 a4 b4 hS4 D5 h5 l5 h6 F6 N6
  subst hX
  have hsp' := hsp.draw hS hS4
  have N2 := drop_ (drop_ N6 fun q hq => List.mem_cons_of_mem _ (p_draw q hq)) p_c4
  have hc := hsp'.c4
  clear N6
  generalize hY : ((L + 1, o1) :: (L + 1 + 1, o2) :: (L + 1 + 1 + 1, o3) :: (S4 ++ (M ++ R)) : Led) = Y at N2 hc
  k_steps
  rename_i h8 o8 F8 N8 d8
  subst hY
  exact ⟨rfl, pl, mk, a1, b1, a4, b4, LawSt.mk' F8 N8 p_c4' hS4 hne hM hsp'.cell (by omega) (by omega) d1 d2 d3 ⟨_, d8⟩ ⟨kd.mono rfl fun _ h => h, ⟨u1, rfl⟩, u4, d8⟩⟩

end
section
variable {w : World} {p : Program} {loose : List Str} {mean : ExcName → Option Value} {mg mb : Str → Option Value}
local macro_rules | `(tactic| walk_at "zz") => `(tactic| fail "zz")
theorem rev_tmp {prog : Program} {w : World} {A : Around} {E : Value → Shared → Prop} {s : Shared} {h₀ : Heap} {L l : Addr} {m : Str → Option Value} {news : List (Addr × Obj)} {value slice : PySem.Expr} {vs : List Value} {ns : List Int} {vk : Value} {ops : List Value} {Q : Value → Shared → Prop}
    (F : Fr h₀ L s.heap m) (N : News h₀ L s.heap news) (hl : s.heap.IsList l vs.toArray) (pk : IsPart vk (some (-1))) (hi : IntsAre vs ns)
    (h : ∀ D ws h', Fr h₀ L h' m → News h₀ L h' ((D, listOf (List.toArray ws) 0) :: news) → IntsAre ws ns.reverse → Q (.ref D) { s with heap := h' })
    (hs : subscripted slice false (.ref l) (.ref s.heap.objs.size) = operate ops (getItem (.ref l) (.ref s.heap.objs.size))) (hz : vs.length ≤ sizeLine) :
    wpAny (model prog w) A (subscriptTail value slice (.ref l) (.ref s.heap.objs.size)) Q E { s with heap := s.heap.push { cls := .type "slice", data := .fields #[.none, .none, vk] } } := by
  refine tail_any (Heap.IsList.typeIs (s := { s with heap := s.heap.push { cls := .type "slice", data := .fields #[.none, .none, vk] } }) (hl.push _)) list_getitem_lookup
    (wpAny_getItem_list_slice (hl.push _) (Heap.IsSliceOf.new ..) .none .none pk (by decide) ?_ (by rw [List.size_toArray]; exact hz)) hs
  have N1 := News.push (F.push { cls := .type "slice", data := .fields #[.none, .none, vk] }) (N.grown fun _ _ e => Heap.get?_push_of_some _ e) { cls := .type "list", data := .seq (slicePick vs.toArray none none (some (-1))) }
  rw [krv_pick] at N1
  refine h _ _ _ ((F.push _).push _) ?_ hi.reverse
  rw [krv_pick]
  exact N1
local macro_rules | `(tactic| walk_at "call ref") => `(tactic| ((with_reducible show wpAny _ _ (call (Value.ref 832) _) _ _ _); refine' ct_useU u_taken (taken_ct ?S ?ne ?off ?l ?l2 ?t ?t2) ?_ (hs := ?s); (case S => assumption); (case ne => assumption); (case off => assumption); (case l => decide); (case l2 => decide); (case t => first | ((repeat refine nn1 ?_) <;> assumption) | omega); (case t2 => omega); (case s => first | assumption | exact fun _ h => h); (intro h9 tk9 F9 d9 u9 S9 h09 h19 hS9 N9); (try dsimp only)))
set_option maxRecDepth 100000 in
set_option maxHeartbeats 8000000 in
theorem law_s11 {dp un : Nat} {gd : Option (List Code)} {outer : List Env} {A₀ : Around} {base g : Heap} {L f : Addr} {cd : Value} {s₀ s : Shared} (B : Below A₀ base outer g) (X : (heapK w.params).In g) (T : Top p loose mean mg mb g) (hd : dp + 30 < 1000) (hu : un + 8 * 30 + 400 < 9900) {fd : List Int} {pl mk : Int} (hfl : fd.length ≤ 7) (p0 : 0 ≤ pl) (p1 : pl < 8)
    (h0 : LawSt g L 62 (fun m _ _ o4 R => KI "due" fd m R ∧ (∃ u, m (Str.ofString "place") = some (.int pl u)) ∧ ∃ u, o4.data = .cell (some (.int mk u))) s₀ s) :
    wpAny (model (OpenRow.toRowW (OpenLaw.row PySem.Challenge.rw_pq0955_01)).prog w) (lawA dp un gd L f cd outer) (exec (lawSt 11) (lawE L f cd)) (Nx fun s' => ∃ ns : List Int, ns.length ≤ 40 ∧ LawSt g L 63 (fun m _ _ o4 R => KI "numbers" ns m R ∧ ∃ u, o4.data = .cell (some (.int mk u))) s₀ s') (fun _ _ => False) s := by
  obtain ⟨h, tk, m, o1, o2, o3, o4, sa, ca, tt, S, M, R, rfl, F, N, hS, hne, hM, hsp, t0, t1, d1, d2, d3, d4, ⟨da, dvs, kd, ed, md, hd'⟩, ⟨up, ep⟩, um, e4'⟩ := h0
  replace F := fr_on (l := [(Str.ofString "due", .ref da), (Str.ofString "place", .int pl up)]) F ⟨ed, ep, trivial⟩
  simp only [mOn] at F
  have hdl : dvs.length ≤ 7 := by rw [hd'.length]; exact hfl
  k_data
  refine' enter_st (k := 11) ?o9 ?h9 ?_
  case o9 => k_is
  case h9 => exact rfl
  k_fold
  have N0 := drop_ N p_in
  have c1 : (L + 1, o1) ∈ cl4 L o1 o2 o3 o4 ++ (M ++ R) := by simp
  have mdd : (da, listOf dvs.toArray kd) ∈ cl4 L o1 o2 o3 o4 ++ (M ++ R) := by simp [md]
  have mds := sub_app (ex := S) _ mdd
  have ho := hsp.off hS
  generalize hX : cl4 L o1 o2 o3 o4 ++ (M ++ R) = X0 at *
  clear N
  repeat ((fail_if_success (with_reducible show wpAny _ _ (subscriptTail (PySem.Expr.Subscript _ _ _) _ _ _) _ _ _)); (fail_if_success (with_reducible show wpAny _ _ (binaryOp _ (Value.ref _) (Value.ref _)) _ _ _)); (fail_if_success (with_reducible show wpAny _ _ (call (Value.ref 832) _) _ _ _)); (first | walk1 | (dsimp only; walk1)))
  rename_i D1 w1 h1 l1 i1 c1' e1 D2 w2 h2 F2 N2 i2 c2 e2 l2
  refine' rev_tmp F2 N2 (News.isList N2 (List.mem_cons_self ..)) ?k i2 ?_ ?s ?z
  case k => exact IsPart.int _ _
  case s => with_unfolding_all rfl
  case z => rw [i2.length]; exact Nat.le_trans e2 (Nat.le_trans hfl (by decide))
  intro D3 w3 h3 F3 N3 i3
  clear F2 N2
  repeat ((fail_if_success (with_reducible show wpAny _ _ (binaryOp _ (Value.ref _) (Value.ref _)) _ _ _)); (first | walk1 | (dsimp only; walk1)))
  refine' kmk_add_ints F3 N3 (News.isList N3 (List.mem_cons_of_mem _ (List.mem_cons_of_mem _ (List.mem_cons_self ..)))) (News.isList N3 (List.mem_cons_self ..)) i1 i3 ?_ ?z
  case z => rw [List.length_reverse]; exact Nat.le_trans (Nat.add_le_add e1 e2) (Nat.le_trans (Nat.add_le_add hfl hfl) (by decide))
  intro D4 w4 h4 F4 N4 l4 i4
  clear F3 N3
  have mS := hS.mem
  obtain ⟨⟨oa, ha⟩, ⟨ob, hb⟩⟩ := mS
  have hlt4 : ∀ q ∈ S ++ X0, @LT.lt Nat _ q.1 D4 := fun q hq => l4 q (List.mem_cons_of_mem _ (List.mem_cons_of_mem _ (List.mem_cons_of_mem _ hq)))
  have ho4 : Off2 sa ca ((D4, listOf w4.toArray 0) :: X0) := Off2.cons (Nat.ne_of_gt (hlt4 _ (List.mem_append_left _ ha))) (Nat.ne_of_gt (hlt4 _ (List.mem_append_left _ hb))) ho
  have N5 : News g L h4 (S ++ ((D4, listOf w4.toArray 0) :: X0)) := drop_ N4 fun q hq => by
    rcases List.mem_append.mp hq with hq | hq
    · simp [hq]
    · rcases List.mem_cons.mp hq with rfl | hq
      · exact List.mem_cons_self ..
      · simp [hq]
  have c5 := List.mem_cons_of_mem (D4, listOf w4.toArray 0) c1
  have i5 : w4.length = (fd.drop pl.toNat ++ (fd.take pl.toNat).reverse).length := i4.length
  clear N4 l4 hlt4 i1 i2 i3 l1 l2 mds
  clear c1' e1 c2 e2
  repeat ((fail_if_success (with_reducible show wpAny _ _ (subscriptTail _ _ _ _) _ _ _)); (first | walk1 | (dsimp only; walk1)))
  rename_i h9 tk9 F9 d9 u9 S9 a9 b9 hS9 N9
  have hofn : Split (cl4 L o1 o2 o3 o4) S9 M R := hsp.draw hS hS9
  have md9 := sub_app (ex := S9) _ (List.mem_cons_of_mem (D4, listOf w4.toArray 0) mdd)
  have mD4 := sub_app (ex := S9) _ (List.mem_cons_self (a := (D4, listOf w4.toArray 0)) (l := X0))
  have hx9 : ∀ q ∈ cl4 L o1 o2 o3 o4 ++ (S9 ++ (M ++ R)), q ∈ S9 ++ ((D4, listOf w4.toArray 0) :: X0) := fun q hq => by
    subst hX
    have := p_draw q hq
    simp only [List.mem_append, List.mem_cons] at this ⊢
    rcases this with h | h
    · exact .inl h
    · exact .inr (.inr h)
  generalize hZ : S9 ++ ((D4, listOf w4.toArray 0) :: X0) = Z at N9 md9 mD4 hx9
  clear ho4 c5 ha hb ho
  repeat ((fail_if_success (with_reducible show wpAny _ _ (binaryOp _ (Value.ref _) (Value.ref _)) _ _ _)); (first | walk1 | (dsimp only; walk1)))
  rename_i D6 w6 h6 F6 N6 l6 i6 c6 e6
  have e4 : (fd.drop pl.toNat ++ (fd.take pl.toNat).reverse).length = fd.length := by simp only [List.length_append, List.length_reverse, List.length_drop, List.length_take]; omega
  refine' kmk_add_ints F6 N6 (News.isList N6 (List.mem_cons_of_mem _ mD4)) (News.isList N6 (List.mem_cons_self ..)) i4 i6 ?_ ?z
  case z => rw [e4]; exact Nat.le_trans (Nat.add_le_add hfl (Nat.le_trans e6 hfl)) (by decide)
  intro D7 w7 h7 F7 N7 l7 i7
  clear F6 N6
  k_steps
  rename_i h8 F8 N8
  refine ⟨rfl, _, ?_, LawSt.mk' (R := (D7, listOf w7.toArray 0) :: R) F8 N8 (fun q hq => ?_) hS9 hne hM (hofn.new fun q hq => Nat.ne_of_lt (l7 q (List.mem_cons_of_mem _ (hx9 q hq)))) (by omega) (by omega) d1 d2 d3 ⟨_, e4'⟩ ⟨⟨D7, w7, 0, rfl, List.mem_cons_self .., i7⟩, um, e4'⟩⟩
  · rw [List.length_append, e4]; omega
  · rcases List.mem_cons.mp (p_new q hq) with rfl | hq
    · exact List.mem_cons_self ..
    · exact List.mem_cons_of_mem _ (List.mem_cons_of_mem _ (hx9 q hq))

end
section
variable {w : World} {p : Program} {loose : List Str} {mean : ExcName → Option Value} {mg mb : Str → Option Value}
theorem ok_pairs {ps : List (Int × Int)} : (ps.map pairD).all (kqdOk 6) = true := by
  rw [List.all_map, List.all_eq_true]
  intro q _
  rfl
theorem ok_want {ns : List Int} {ws : List Str} : ∀ d ∈ wantD ns ws, kqdOk 8 d = true := by
  have h1 : ∀ n : Int, kqdOk 8 (pairW "MIN" (.int n)) = true := fun n => by simp only [kqdOk, List.all_cons, List.all_nil, Bool.and_true]; decide +kernel
  have h2 : ∀ n : Int, kqdOk 8 (pairW "MAX" (.int n)) = true := fun n => by simp only [kqdOk, List.all_cons, List.all_nil, Bool.and_true]; decide +kernel
  have h3 : ∀ n : Int, kqdOk 8 (pairW "COUNT" (.int n)) = true := fun n => by simp only [kqdOk, List.all_cons, List.all_nil, Bool.and_true]; decide +kernel
  have h4 : kqdOk 8 (pairW "ALL" (.tuple ((runsOf (sortL ns)).map pairD))) = true := by
    show ([Dat.str (Str.ofString "ALL"), .tuple ((runsOf (sortL ns)).map pairD)]).all (kqdOk 7) = true
    rw [List.all_cons, List.all_cons, List.all_nil, Bool.and_true, Bool.and_eq_true]
    exact ⟨by decide +kernel, ok_pairs⟩
  intro d hd
  unfold wantD wMin wMax wAll wCount at hd
  simp only [List.mem_append] at hd
  rcases hd with hd | hd
  · split at hd
    · cases hd
    · simp only [List.mem_append] at hd
      rcases hd with (hd | hd) | hd
      · split at hd
        · rw [List.mem_singleton.mp hd]; exact h1 _
        · cases hd
      · split at hd
        · rw [List.mem_singleton.mp hd]; exact h2 _
        · cases hd
      · split at hd
        · rw [List.mem_singleton.mp hd]; exact h4
        · cases hd
  · split at hd
    · rw [List.mem_singleton.mp hd]; exact h3 _
    · cases hd
set_option maxRecDepth 100000 in
set_option maxHeartbeats 8000000 in
theorem law_s13 {dp un : Nat} {gd : Option (List Code)} {outer : List Env} {A₀ : Around} {base g : Heap} {L f : Addr} {cd : Value} {s₀ s : Shared} (B : Below A₀ base outer g) (X : (heapK w.params).In g) (T : Top p loose mean mg mb g) (hd : dp + 30 < 1000) (hu : un + 8 * 30 + 400 < 9900) {ns : List Int} {ws : List Str} (hns : ns.length ≤ 40) (hws : ws.length ≤ 40)
    (h0 : LawSt g L 63 (fun m _ _ _ R => KI "numbers" ns m R ∧ KWd ws m R) s₀ s) :
    wpAny (model (OpenRow.toRowW (OpenLaw.row PySem.Challenge.rw_pq0955_01)).prog w) (lawA dp un gd L f cd outer) (exec (lawSt 13) (lawE L f cd)) (fun fl s' => fl = .ret (.bool true) ∧ Done g L s₀ s') (fun _ _ => False) s := by
  obtain ⟨h, tk, m, o1, o2, o3, o4, sa, ca, tt, S, M, R, rfl, F, N, hS, hne, hM, hsp, t0, t1, d1, d2, d3, d4, ⟨na, nvs, kn, en, mn, hn⟩, ⟨wa, wvs, kw, ew, mw, hw⟩⟩ := h0
  replace F := fr_on (l := [(Str.ofString "numbers", .ref na), (Str.ofString "wants", .ref wa)]) F ⟨en, ew, trivial⟩
  simp only [mOn] at F
  have hnl := hn.length
  have hwl := hw.length
  k_data
  refine' enter_st (k := 13) ?o9 ?h9 ?_
  case o9 => k_is
  case h9 => exact rfl
  k_fold
  have mn' := p_R (C := cl4 L o1 o2 o3 o4) (S := S) (M := M) _ mn
  have mw' := p_R (C := cl4 L o1 o2 o3 o4) (S := S) (M := M) _ mw
  generalize hX : cl4 L o1 o2 o3 o4 ++ (S ++ (M ++ R)) = X0 at *
  repeat ((fail_if_success (with_reducible show wpAny _ _ (call (Value.type "list") _) _ _ _)); (first | walk1 | (dsimp only; walk1)))
  refine' kup_listOf F N mn' rfl ?_ ?_
  · intro D1 k1 h1 F1 N1 l1
    repeat ((fail_if_success (with_reducible show wpAny _ _ (call (Value.type "list") _) _ _ _)); (first | walk1 | (dsimp only; walk1)))
    refine' kup_listOf F1 N1 (List.mem_cons_of_mem _ mw') rfl ?_ ?_
    · intro D2 k2 h2 F2 N2 l2
      repeat ((fail_if_success (with_reducible show wpAny _ _ (call (Value.ref 814) _) _ _ _)); (first | walk1 | (dsimp only; walk1)))
      refine' ct_useU u_list (esearch_ct (List.mem_cons_of_mem _ (List.mem_cons_self ..)) hn (List.mem_cons_self ..) hw hns hws) ?_ (F := F2) (N := N2)
      rintro h3 tk3 F3 D3 vs3 k3 ex3 hap3 hd3 N3
      repeat ((fail_if_success (with_reducible show wpAny _ _ (call (Value.ref 867) _) _ _ _)); (first | walk1 | (dsimp only; walk1)))
      refine' ct_useU u_list (pairs_ct (List.mem_cons_of_mem _ (List.mem_append_right _ (List.mem_cons_of_mem _ (List.mem_cons_of_mem _ mn')))) hn (List.mem_cons_of_mem _ (List.mem_append_right _ (List.mem_cons_of_mem _ (List.mem_cons_of_mem _ mw')))) hw hns hws) ?_ (F := F3) (N := N3)
      rintro h4 tk4 F4 D4 vs4 k4 ex4 hap4 hd4 N4
      repeat ((fail_if_success (with_reducible show wpAny _ _ (compareOp _ _ _) _ _ _)); (first | walk1 | (dsimp only; walk1)))
      refine kqd_eq N4 (List.mem_cons_of_mem _ (List.mem_append_right _ (List.mem_cons_self ..))) rfl rfl hd3 (fun q hq => List.mem_cons_of_mem _ (List.mem_append_right _ (List.mem_cons_of_mem _ hq))) (List.mem_cons_self ..) rfl rfl hd4 (fun q hq => List.mem_cons_of_mem _ hq) ok_want ok_want (by ke_room) ?_
      k_steps
      have e' : ∀ (i : Decidable (wantD ns ws = wantD ns ws)), @decide _ i = true := fun i => decide_eq_true rfl
      rw [e']
      obtain ⟨ps, hps⟩ : ∃ ps, (790, tabObj ps) ∈ M := by
        rcases hM with rfl | ⟨c', oc, w', t', rfl, _⟩
        · exact ⟨_, List.mem_cons_self ..⟩
        · exact ⟨_, List.mem_cons_self ..⟩
      subst hX
      exact ⟨_, _, _, rfl, F4, ps, (N4 _ (List.mem_cons_of_mem _ (List.mem_append_right _ (List.mem_cons_of_mem _ (List.mem_append_right _ (List.mem_cons_of_mem _ (List.mem_cons_of_mem _ (List.mem_append_right _ (List.mem_append_right _ (List.mem_append_left _ hps)))))))))).1⟩
    · show wvs.length ≤ sizeLine
      rw [hwl]
      exact Nat.le_trans hws (by decide)
  · show nvs.length ≤ sizeLine
    rw [hnl]
    exact Nat.le_trans hns (by decide)

end
section
variable {w : World} {p : Program} {loose : List Str} {mean : ExcName → Option Value} {mg mb : Str → Option Value}
theorem flags_small : ∀ k : Fin 32, (flagsOf k).length ≤ 10 ∧ ∀ y ∈ flagsOf k, y.length ≤ 60 := by decide +kernel
theorem let_due {ls : List (Int × Int × List Str)} (h : LetsGood ls) : LetsOk ls := ⟨Nat.le_trans h.1 (by decide), fun l hl => by
  obtain ⟨_, _, k, e⟩ := h.2 l hl
  rw [e]
  exact flags_small k⟩
theorem let_good {ls : List (Int × Int × List Str)} (h : LetsGood ls) : ∀ l ∈ ls, LGood l := h.2
theorem due_len {b : Bool} {t : Mine.T} {ls : List (Int × Int × List Str)} (h : LetsGood ls) : (dueL b t ls).length ≤ 7 := by
  unfold dueL
  rw [List.length_map]
  exact Nat.le_trans (List.length_filter_le ..) h.1
theorem law_all {dp un : Nat} {gd : Option (List Code)} {outer : List Env} {A₀ : Around} {base g : Heap} {L f : Addr} {cd : Value} {s₀ s : Shared} (B : Below A₀ base outer g) (X : (heapK w.params).In g) (T : Top p loose mean mg mb g) (hd : dp + 30 < 1000) (hu : un + 8 * 30 + 400 < 9900) {a : Addr} {vs : List Value} {ns : List Int} {h : Heap} {tk : Nat} {m : Str → Option Value} {o1 o2 o3 o4 : Obj} (hi : IntsAre vs ns) (hsz : vs.length ≤ 1000) (hl : g.IsList a vs.toArray) (hL : @LT.lt Nat _ 790 L)
    (F : Fr g L h m) (hm : m (Str.ofString "script") = some (.ref a)) (N : News g L h (cl4 L o1 o2 o3 o4 ++ [(790, tabObj #[])])) (d1 : ∃ v, o1.data = .cell v) (d2 : ∃ v, o2.data = .cell v) (d3 : ∃ v, o3.data = .cell v) (d4 : ∃ v, o4.data = .cell v) (hs : s = { s₀ with heap := h, toks := tk }) :
    wpAny (model (OpenRow.toRowW (OpenLaw.row PySem.Challenge.rw_pq0955_01)).prog w) (lawA dp un gd L f cd outer) (execs lawAll (lawE L f cd)) (fun fl s' => fl = .ret (.bool true) ∧ Done g L s₀ s') (fun _ _ => False) s := by
  refine cutN _ (law_s0 B X T hd hu hi hsz hl hL F hm N d1 d2 d3 d4 hs) fun s1 h1 => ?_
  refine cutN _ (law_s1 B X T hd hu h1) fun s2 ⟨ls, hls, h2⟩ => ?_
  have hok := let_due hls
  have hgd := let_good hls
  refine cutN _ (law_s2 B X T hd hu h2) fun s3 ⟨t, ht, hdp, h3⟩ => ?_
  refine cutN _ (law_s3 B X T hd hu hok h3) fun s4 h4 => ?_
  refine cutN _ (law_s4 B X T hd hu ht hdp hok h4) fun s5 h5 => ?_
  refine cutN _ (law_s5 B X T hd hu ht hdp hok hgd h5) fun s6 h6 => ?_
  refine cutN _ (law_s6 B X T hd hu hls h6) fun s7 ⟨lf, hlf, h7⟩ => ?_
  refine cutN _ (law_s7 B X T hd hu ht hdp hok hgd hlf h7) fun s8 h8 => ?_
  refine cutN _ (law_s8 B X T hd hu h8) fun s9 ⟨g2, g0, g1, h9⟩ => ?_
  refine cutN _ (law_s9 B X T hd hu ht hdp hok hgd g0 g1 h9) fun s10 h10 => ?_
  refine cutN _ (law_s10 B X T hd hu h10) fun s11 ⟨pl, mk, p0, p1, q0, q1, h11⟩ => ?_
  refine cutN _ (law_s11 B X T hd hu (due_len hls) p0 p1 h11) fun s12 ⟨ns, hns, h12⟩ => ?_
  refine cutN _ (law_s12 B X T hd hu q0 q1 h12) fun s13 ⟨ws, hws, h13⟩ => ?_
  exact wpAny_execs_cons (wpAny_mono (law_s13 B X T hd hu hns hws h13) (fun fl s' h => by obtain ⟨rfl, h⟩ := h; exact ⟨rfl, h⟩) fun _ _ e => e)

end
end
end Mine
namespace Mine
section
set_option maxRecDepth 100000
set_option maxHeartbeats 4000000 in
theorem hd_V {d : DefRec} {kwd : List (Str × Expr)} (hdef : defOf qV RW7.name = some (d, kwd)) (hp : RW7.prog.theDef RW7.name = some (d.params, d.body, d.scope)) (hk : kwWritten? d.params.kwonlyargs d.params.kw_defaults = some kwd)
    (call : WalkO qV looseV (XL qV []) HK.says RW7 d kwd fun f vs => PySem.call f vs) : PySem.Challenge.rw_pq0955_01.Holds := by
  w_on
  refine holds_law said fun said => ?_
  refine holds_open (r := OpenLaw.row PySem.Challenge.rw_pq0955_01) (q := qV) (loose := looseV) (Xt := XtV) (XP := XL qV []) (Yf := HK.obs) (Ya := HK.val) (YP := HK.says) (N := NV) left_V HK.of HK.keeps (fun s e => xl_of s (Bool.and_eq_true_iff.mp e).1) XL.keeps hdef hp hk (fun s e => recFacts_of (Bool.and_eq_true_iff.mp e).2) ?_ said ?_ ⟨rfl, rfl, rfl, rfl, rfl, tables⟩ ?_ call
  · rfl
  · decide +kernel
  · w_witness2
end
end Mine
namespace Mine
section
set_option maxRecDepth 100000
theorem law_post {args : List WData} : (OpenRow.toRowW (OpenLaw.row PySem.Challenge.rw_pq0955_01)).claim.post args (.bool true) args = true := by
  show (WShape.has [] (.bool true) .bool && (WTm.holds [] (.eq .res (.lit (.bool true))) { args := args, res := some (.bool true), after := args })) = true
  rw [show WShape.has [] (.bool true) .bool = true by decide +kernel, Bool.true_and]
  show (match some (WData.bool (same (.bool true) (.bool true))) with | some (.bool true) => true | _ => false) = true
  rw [show same (WData.bool true) (.bool true) = true by decide +kernel]
theorem law_fin {cl : Str → Option Addr} {mean : ExcName → Option Value} {args : List WData} {s₁ s' : Shared} {g : Heap} {L : Addr} (hg : s₁.gens = #[]) (h : Done g L s₁ s') :
    GoodW (OpenRow.toRowW (OpenLaw.row PySem.Challenge.rw_pq0955_01)).claim cl mean args { s₁ with heap := g } (.ok (.ret (.bool true))) s' ∧ GrownAll [(794, 790)] s'.heap := by
  obtain ⟨h', tk', m, rfl, F, ps, hps⟩ := h
  exact ⟨⟨.inl ⟨.bool true, .bool true, [], rfl, fun _ => rfl, .bool true, law_post, fun _ => ⟨List.nodup_nil, fun _ h => nomatch h⟩⟩, fun b o e => F.keep b o e, rfl, hg⟩, ⟨ps, hps⟩, trivial⟩
set_option maxHeartbeats 4000000 in
theorem law_holds : PySem.Challenge.rw_pq0955_01.Holds := by
  refine hd_V rfl rfl rfl ?_
  show WalkO qV looseV (XL qV []) (kmHook heapK asK asE [790]).says (OpenRow.toRowW (OpenLaw.row PySem.Challenge.rw_pq0955_01)) _ _ _
  k_go0
  rename_i o4 o3 o2 o1 d4 d3 d2 d1 X0 X T B F N l0
  refine wpAny_mono (Q := fun fl s' => fl = .ret (.bool true) ∧ Done _ _ _ s') (E := fun _ _ => False) (enter_law (dp := 302) (un := 7) (gd := some []) (outer := []) (by kernel_rfl) rfl (by kernel_rfl) rfl (law_all B X T (by decide) (by decide) (by assumption) ?hsz lifted l0 F rfl (drop_ N fun q hq => ?hN) ⟨_, d1⟩ ⟨_, d2⟩ ⟨_, d3⟩ ⟨_, d4⟩ rfl)) (fun fl s h => ?_) fun _ _ (x : False) => x.elim
  case hsz =>
    rename IntsAre _ _ => hi
    rename ¬ _ => hn
    rw [hi.length]
    exact Nat.le_trans (Int.ofNat_le.mp (Int.not_lt.mp hn)) (by decide)
  case hN =>
    simp only [List.mem_append, List.mem_cons, List.not_mem_nil, or_false] at hq ⊢
    rcases hq with (h | h | h | h) | h <;> simp [h]
  · obtain ⟨rfl, h⟩ := h
    exact law_fin (by assumption) h
end
end Mine
theorem PySem.Challenge.cw_pq0955_01_holds : PySem.Challenge.rw_pq0955_01.Holds := by
  exact Mine.law_holds
