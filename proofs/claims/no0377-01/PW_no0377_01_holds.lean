import PyProof.Rows.All
import Wide.All
import OpenK.AllK
import Wide.FinOn
import PySem.Challenge.RW_no0377_01
set_option Elab.async false
set_option linter.all false
set_option maxRecDepth 100000
set_option genSizeOf false
set_option compiler.extract_closed false
set_option genInjectivity false
set_option maxHeartbeats 0
set_option hygiene false
set_option tactic.hygienic false
open PySem PySem.W PySem.Calls PyProof.Rows PySem.Spec PySem.NumText
namespace Mine
noncomputable abbrev S (s : String) : List Nat := (Str.ofString s).cps.toList
structure Df where
 params : Arguments
 body : List Stmt
 scope : Scope
noncomputable def dfOf : Stmt -> Option Df
 | .FunctionDef _ a b _ _ _ s _ _ _ => some ⟨a, b, s⟩
 | _ => none
noncomputable def noDf : Df := ⟨{ posonlyargs := [], args := [], vararg := none, kwonlyargs := [], kw_defaults := [], kwarg := none, defaults := [] }, [], { kind := .module, names := [], isGenerator := false, isCoroutine := false }⟩
noncomputable def dfAt (n : Nat) : Df := ((PySem.Challenge.pw_no0377_01.main.body[n]?).bind dfOf).getD noDf
noncomputable def clsBody : Stmt -> List Stmt
 | .ClassDef _ _ _ b _ _ _ _ _ _ _ => b
 | _ => []
noncomputable def dmAt (n j : Nat) : Df := ((PySem.Challenge.pw_no0377_01.main.body[n]?).bind fun s => ((clsBody s)[j]?).bind dfOf).getD noDf
noncomputable abbrev vs (x : Str) (t : Tok) : Value := .str x t
noncomputable abbrev vi (n : Int) : Value := .int n 0
noncomputable abbrev vr (a : Addr) : Value := .ref a
noncomputable abbrev en (P : Params) (k : Str) (t : Tok) (v : Value) : DictEntry := ⟨PyData.keyHash P k, .str k t, v⟩
noncomputable abbrev fo (a : Addr) (nm q : Str) (D : Df) (dV pm : Value) (c : Addr) : Addr × Obj := (a, { cls := .type "function", data := .func { name := nm, qualname := q, params := D.params, body := .stmts D.body, scope := D.scope, globals := 3, closure := [], defaults := dV, kwdefaults := .none, pyModule := pm, code := .ref c } })
noncomputable abbrev co (l : List Value) : Obj := { cls := .type "code", data := .fields l.toArray }
noncomputable abbrev cA (a : Addr) (n q : Str) (t : Tok) (l k : Int) (c : Addr) (u : Nat) : Addr × Obj := (a, co [vs n t, vs q (t + 1), vs "/claim/cut.py" (t + 2), vi l, vi k, vi 0, vi 0, vi 3, vr c, .bool true, vi 181, vr (c + 1), .none, vr (c + 2), vr (c + 3), vr (c + 4), vi u, vi l, vs "/claim/cut.py" (u + 1)])
noncomputable abbrev cB (a : Addr) (n q : Str) (t : Tok) (l k : Int) (c : Addr) (u : Nat) : Addr × Obj := (a, co [vs n t, vs q (t + 1), vs "/claim/cut.py" (t + 2), vi l, vi k, vi 0, vi 0, vi 3, vr c, .bool true, vi 181, vr (c + 1), .none, .none, .none, vr (c + 2), vi u, vi l, vs "/claim/cut.py" (u + 1)])
noncomputable def kobj (P : Params) : Frag := [
(3, { cls := .type "dict", data := .dict #[en P "__name__" 165 (vs "law_no0377_01" 694), en P "__doc__" 166 .none, en P "__package__" 167 .none, en P "__loader__" 168 (.builtin "__main__.__loader__#opaque"), en P "__spec__" 169 .none, en P "__annotations__" 170 (vr 6), en P "__builtins__" 171 (vr 4), en P "__file__" 173 (vs "/claim/cut.py" 172), en P "__cached__" 174 .none, en P "PostError" 228 (vr 39), en P "WordFault" 244 (vr 52), en P "lower_code" 253 (vr 61), en P "lower_text" 259 (vr 66), en P "MOST_DEPTH" 263 (.int 20 262), en P "SIGNS" 265 (.bytes #[60, 62, 64, 44, 59, 58, 46, 92] 264), en P "ATOM_SIGNS" 267 (.bytes #[33, 35, 36, 37, 38, 39, 42, 43, 45, 47, 61, 63, 94, 95, 96, 123, 124, 125, 126] 266), en P "NEVER_ESCAPED" 271 (vr 67), en P "is_atom_code" 278 (vr 74), en P "line_end" 286 (vr 81), en P "inside_at" 296 (vr 88), en P "closed_at" 309 (vr 95), en P "comment_at" 322 (vr 102), en P "atom_at" 331 (vr 109), en P "token_at" 342 (vr 116), en P "past_white" 351 (vr 123), en P "tokens_of" 361 (vr 130), en P "without_comments" 367 (vr 135), en P "MONTHS" 382 (vr 136), en P "DAYS" 390 (vr 137), en P "MOST_YEAR" 392 (.int 9999 391), en P "MOST_ZONE" 398 (.int 5999 397), en P "FIRST_DAY" 400 (.int 719162 399), en P "Moment" 448 (vr 161), en P "is_leap" 455 (vr 172), en P "month_length" 463 (vr 179), en P "days_before_year" 471 (vr 186), en P "day_number" 482 (vr 193), en P "weekday" 491 (vr 200), en P "is_day" 500 (vr 207), en P "is_time" 509 (vr 214), en P "check_moment" 517 (vr 221), en P "month_number" 523 (vr 226), en P "is_day_name" 529 (vr 231), en P "padded" 538 (vr 238), en P "zone_text" 545 (vr 245), en P "clock_text" 551 (vr 250), en P "is_figures" 557 (vr 255), en P "zone_in" 565 (vr 262), en P "named_zone" 571 (vr 267), en P "DateReader" 642 (vr 317), en P "full_year" 650 (vr 328), en P "read_clock" 660 (vr 335), en P "read_zone" 669 (vr 342), en P "read_date" 687 (vr 349), en P "write_date" 693 (vr 354), en P "_law_box" 701 (vr 359), en P "_law_draw" 711 (vr 366), en P "_law_months" 724 (vr 367), en P "_law_days" 732 (vr 368), en P "_law_zones" 738 (vr 375), en P "_law_length" 746 (vr 382), en P "_law_figures" 755 (vr 389), en P "_law_gap" 762 (vr 396), en P "_law_year" 770 (vr 403), en P "_law_zone" 780 (vr 410), en P "_law_atom" 786 (vr 415), en P "_law_is_sign" 795 (vr 422), en P "_law_is_number" 801 (vr 427), en P "_law_read" 807 (vr 432), en P "_law_weekday" 816 (vr 439), en P "law" 822 (vr 444)] 71 }),
(22, { cls := .type "tuple", data := .seq #[.int (-1) 202] }),
cA 28 "__init__" "PostError.__init__" 203 4 3 23 209,
fo 29 "__init__" "PostError.__init__" (dmAt 1 0) (vr 22) (vs "postkeep.errors" 187) 28,
cA 35 "told" "PostError.told" 212 9 1 30 216,
fo 36 "told" "PostError.told" (dmAt 1 1) (.none) (vs "postkeep.errors" 187) 35,
(38, { cls := .type "dict", data := .dict #[en P "__module__" 196 (vs "postkeep.errors" 187), en P "__firstlineno__" 200 (.int 2 199), en P "__init__" 211 (vr 29), en P "told" 218 (vr 36), en P "__static_attributes__" 221 (vr 37), en P "__weakref__" 223 (vr 40), en P "__doc__" 224 .none] 3 }),
(39, { cls := .type "type", data := .cls { name := "PostError", bases := [.type "Exception"], mro := [vr 39, .type "Exception", .type "BaseException", .type "object"], ns := 38, qualname := "PostError", subclasses := [vr 52] }, slots := #[some (vr 15), none, some (vs "PostError" 189), some (vs "PostError" 197), some (.builtin "Exception.__new__"), some (.bool true)] }),
(40, { cls := .type "getset_descriptor", data := .fields #[vs "__weakref__" 222, vr 39, .builtin "ExceptionGroup.__weakref__", .none] }),
(51, { cls := .type "dict", data := .dict #[en P "__module__" 236 (vs "postkeep.errors" 187), en P "__firstlineno__" 240 (.int 11 239), en P "__static_attributes__" 241 (vr 50), en P "__doc__" 242 .none] 2 }),
(52, { cls := .type "type", data := .cls { name := "WordFault", bases := [vr 39], mro := [vr 52, vr 39, .type "Exception", .type "BaseException", .type "object"], ns := 51, qualname := "WordFault" }, slots := #[some (vr 43), none, some (vs "WordFault" 229), some (vs "WordFault" 237), some (.builtin "Exception.__new__"), some (.bool true)] }),
cA 60 "lower_code" "lower_code" 247 14 1 55 251,
fo 61 "lower_code" "lower_code" (dfAt 4) (.none) (vs "postkeep.octets" 245) 60,
cB 65 "lower_text" "lower_text" 254 16 1 62 257,
fo 66 "lower_text" "lower_text" (dfAt 5) (.none) (vs "postkeep.octets" 245) 65,
(67, { cls := .type "tuple", data := .seq #[.int 0 268, .int 10 269, .int 13 270] }),
cA 73 "is_atom_code" "is_atom_code" 272 23 1 68 276,
fo 74 "is_atom_code" "is_atom_code" (dfAt 11) (.none) (vs "postkeep.tokens" 260) 73,
cA 80 "line_end" "line_end" 279 25 2 75 284,
fo 81 "line_end" "line_end" (dfAt 12) (.none) (vs "postkeep.tokens" 260) 80,
cA 87 "inside_at" "inside_at" 287 29 3 82 294,
fo 88 "inside_at" "inside_at" (dfAt 13) (.none) (vs "postkeep.tokens" 260) 87,
cA 94 "closed_at" "closed_at" 297 42 4 89 307,
fo 95 "closed_at" "closed_at" (dfAt 14) (.none) (vs "postkeep.tokens" 260) 94,
cA 101 "comment_at" "comment_at" 310 51 2 96 320,
fo 102 "comment_at" "comment_at" (dfAt 15) (.none) (vs "postkeep.tokens" 260) 101,
cA 108 "atom_at" "atom_at" 323 66 2 103 329,
fo 109 "atom_at" "atom_at" (dfAt 16) (.none) (vs "postkeep.tokens" 260) 108,
cA 115 "token_at" "token_at" 332 71 2 110 340,
fo 116 "token_at" "token_at" (dfAt 17) (.none) (vs "postkeep.tokens" 260) 115,
cA 122 "past_white" "past_white" 343 88 2 117 349,
fo 123 "past_white" "past_white" (dfAt 18) (.none) (vs "postkeep.tokens" 260) 122,
cA 129 "tokens_of" "tokens_of" 352 95 1 124 359,
fo 130 "tokens_of" "tokens_of" (dfAt 19) (.none) (vs "postkeep.tokens" 260) 129,
cB 134 "without_comments" "without_comments" 362 103 1 131 365,
fo 135 "without_comments" "without_comments" (dfAt 20) (.none) (vs "postkeep.tokens" 260) 134,
(136, { cls := .type "tuple", data := .seq #[vs "Jan" 370, vs "Feb" 371, vs "Mar" 372, vs "Apr" 373, vs "May" 374, vs "Jun" 375, vs "Jul" 376, vs "Aug" 377, vs "Sep" 378, vs "Oct" 379, vs "Nov" 380, vs "Dec" 381] }),
(137, { cls := .type "tuple", data := .seq #[vs "Mon" 383, vs "Tue" 384, vs "Wed" 385, vs "Thu" 386, vs "Fri" 387, vs "Sat" 388, vs "Sun" 389] }),
cA 150 "__init__" "Moment.__init__" 413 113 8 145 424,
fo 151 "__init__" "Moment.__init__" (dmAt 27 0) (.none) (vs "postkeep.dates" 368) 150,
cA 157 "told" "Moment.told" 427 122 1 152 431,
fo 158 "told" "Moment.told" (dmAt 27 1) (.none) (vs "postkeep.dates" 368) 157,
(160, { cls := .type "dict", data := .dict #[en P "__module__" 408 (vs "postkeep.dates" 368), en P "__firstlineno__" 412 (.int 111 411), en P "__init__" 426 (vr 151), en P "told" 433 (vr 158), en P "__static_attributes__" 441 (vr 159), en P "__dict__" 443 (vr 162), en P "__weakref__" 445 (vr 163), en P "__doc__" 446 .none] 4 }),
(161, { cls := .type "type", data := .cls { name := "Moment", bases := [.type "object"], mro := [vr 161, .type "object"], ns := 160, qualname := "Moment" }, slots := #[none, none, some (vs "Moment" 401), some (vs "Moment" 409), some (.builtin "object.__new__"), some (.bool true)] }),
(162, { cls := .type "getset_descriptor", data := .fields #[vs "__dict__" 442, vr 161, .builtin "function.__dict__", .builtin "function.__dict__#set"] }),
(163, { cls := .type "getset_descriptor", data := .fields #[vs "__weakref__" 444, vr 161, .builtin "ExceptionGroup.__weakref__", .none] }),
cA 171 "is_leap" "is_leap" 449 124 1 166 453,
fo 172 "is_leap" "is_leap" (dfAt 28) (.none) (vs "postkeep.dates" 368) 171,
cA 178 "month_length" "month_length" 456 126 2 173 461,
fo 179 "month_length" "month_length" (dfAt 29) (.none) (vs "postkeep.dates" 368) 178,
cA 185 "days_before_year" "days_before_year" 464 130 1 180 469,
fo 186 "days_before_year" "days_before_year" (dfAt 30) (.none) (vs "postkeep.dates" 368) 185,
cA 192 "day_number" "day_number" 472 133 3 187 480,
fo 193 "day_number" "day_number" (dfAt 31) (.none) (vs "postkeep.dates" 368) 192,
cA 199 "weekday" "weekday" 483 138 3 194 489,
fo 200 "weekday" "weekday" (dfAt 32) (.none) (vs "postkeep.dates" 368) 199,
cA 206 "is_day" "is_day" 492 140 3 201 498,
fo 207 "is_day" "is_day" (dfAt 33) (.none) (vs "postkeep.dates" 368) 206,
cA 213 "is_time" "is_time" 501 142 3 208 507,
fo 214 "is_time" "is_time" (dfAt 34) (.none) (vs "postkeep.dates" 368) 213,
cA 220 "check_moment" "check_moment" 510 144 1 215 515,
fo 221 "check_moment" "check_moment" (dfAt 35) (.none) (vs "postkeep.dates" 368) 220,
cB 225 "month_number" "month_number" 518 148 1 222 521,
fo 226 "month_number" "month_number" (dfAt 36) (.none) (vs "postkeep.dates" 368) 225,
cB 230 "is_day_name" "is_day_name" 524 151 1 227 527,
fo 231 "is_day_name" "is_day_name" (dfAt 37) (.none) (vs "postkeep.dates" 368) 230,
cA 237 "padded" "padded" 530 153 2 232 536,
fo 238 "padded" "padded" (dfAt 38) (.none) (vs "postkeep.dates" 368) 237,
cA 244 "zone_text" "zone_text" 539 156 1 239 543,
fo 245 "zone_text" "zone_text" (dfAt 39) (.none) (vs "postkeep.dates" 368) 244,
cB 249 "clock_text" "clock_text" 546 158 1 246 549,
fo 250 "clock_text" "clock_text" (dfAt 40) (.none) (vs "postkeep.dates" 368) 249,
cB 254 "is_figures" "is_figures" 552 161 1 251 555,
fo 255 "is_figures" "is_figures" (dfAt 41) (.none) (vs "postkeep.dates" 368) 254,
cA 261 "zone_in" "zone_in" 558 163 1 256 563,
fo 262 "zone_in" "zone_in" (dfAt 42) (.none) (vs "postkeep.dates" 368) 261,
cB 266 "named_zone" "named_zone" 566 168 1 263 569,
fo 267 "named_zone" "named_zone" (dfAt 43) (.none) (vs "postkeep.dates" 368) 266,
cA 280 "__init__" "DateReader.__init__" 584 175 2 275 589,
fo 281 "__init__" "DateReader.__init__" (dmAt 44 0) (.none) (vs "postkeep.dates" 368) 280,
cA 287 "place" "DateReader.place" 592 180 1 282 596,
fo 288 "place" "DateReader.place" (dmAt 44 1) (.none) (vs "postkeep.dates" 368) 287,
cB 292 "atom" "DateReader.atom" 599 183 1 289 602,
fo 293 "atom" "DateReader.atom" (dmAt 44 2) (.none) (vs "postkeep.dates" 368) 292,
cA 299 "skip" "DateReader.skip" 605 188 2 294 610,
fo 300 "skip" "DateReader.skip" (dmAt 44 3) (.none) (vs "postkeep.dates" 368) 299,
cA 306 "number" "DateReader.number" 613 194 3 301 620,
fo 307 "number" "DateReader.number" (dmAt 44 4) (.none) (vs "postkeep.dates" 368) 306,
cA 313 "need" "DateReader.need" 623 201 3 308 629,
fo 314 "need" "DateReader.need" (dmAt 44 5) (.none) (vs "postkeep.dates" 368) 313,
(316, { cls := .type "dict", data := .dict #[en P "__module__" 579 (vs "postkeep.dates" 368), en P "__firstlineno__" 583 (.int 173 582), en P "__init__" 591 (vr 281), en P "place" 598 (vr 288), en P "atom" 604 (vr 293), en P "skip" 612 (vr 300), en P "number" 622 (vr 307), en P "need" 631 (vr 314), en P "__static_attributes__" 635 (vr 315), en P "__dict__" 637 (vr 318), en P "__weakref__" 639 (vr 319), en P "__doc__" 640 .none] 4 }),
(317, { cls := .type "type", data := .cls { name := "DateReader", bases := [.type "object"], mro := [vr 317, .type "object"], ns := 316, qualname := "DateReader" }, slots := #[none, none, some (vs "DateReader" 572), some (vs "DateReader" 580), some (.builtin "object.__new__"), some (.bool true)] }),
(318, { cls := .type "getset_descriptor", data := .fields #[vs "__dict__" 636, vr 317, .builtin "function.__dict__", .builtin "function.__dict__#set"] }),
(319, { cls := .type "getset_descriptor", data := .fields #[vs "__weakref__" 638, vr 317, .builtin "ExceptionGroup.__weakref__", .none] }),
cA 327 "full_year" "full_year" 643 205 2 322 648,
fo 328 "full_year" "full_year" (dfAt 45) (.none) (vs "postkeep.dates" 368) 327,
cA 334 "read_clock" "read_clock" 651 209 1 329 658,
fo 335 "read_clock" "read_clock" (dfAt 46) (.none) (vs "postkeep.dates" 368) 334,
cA 341 "read_zone" "read_zone" 661 216 1 336 667,
fo 342 "read_zone" "read_zone" (dfAt 47) (.none) (vs "postkeep.dates" 368) 341,
cA 348 "read_date" "read_date" 670 223 1 343 685,
fo 349 "read_date" "read_date" (dfAt 48) (.none) (vs "postkeep.dates" 368) 348,
cB 353 "write_date" "write_date" 688 244 1 350 691,
fo 354 "write_date" "write_date" (dfAt 49) (.none) (vs "postkeep.dates" 368) 353,
cB 358 "_law_box" "_law_box" 696 250 1 355 699,
fo 359 "_law_box" "_law_box" (dfAt 51) (.none) (vs "law_no0377_01" 694) 358,
cA 365 "_law_draw" "_law_draw" 702 259 2 360 709,
fo 366 "_law_draw" "_law_draw" (dfAt 52) (.none) (vs "law_no0377_01" 694) 365,
(367, { cls := .type "tuple", data := .seq #[vs "Jan" 712, vs "Feb" 713, vs "Mar" 714, vs "Apr" 715, vs "May" 716, vs "Jun" 717, vs "Jul" 718, vs "Aug" 719, vs "Sep" 720, vs "Oct" 721, vs "Nov" 722, vs "Dec" 723] }),
(368, { cls := .type "tuple", data := .seq #[vs "Sat" 725, vs "Sun" 726, vs "Mon" 727, vs "Tue" 728, vs "Wed" 729, vs "Thu" 730, vs "Fri" 731] }),
cA 374 "_law_zones" "_law_zones" 733 272 0 369 736,
fo 375 "_law_zones" "_law_zones" (dfAt 55) (.none) (vs "law_no0377_01" 694) 374,
cA 381 "_law_length" "_law_length" 739 274 2 376 744,
fo 382 "_law_length" "_law_length" (dfAt 56) (.none) (vs "law_no0377_01" 694) 381,
cA 388 "_law_figures" "_law_figures" 747 278 2 383 753,
fo 389 "_law_figures" "_law_figures" (dfAt 57) (.none) (vs "law_no0377_01" 694) 388,
cA 395 "_law_gap" "_law_gap" 756 281 1 390 760,
fo 396 "_law_gap" "_law_gap" (dfAt 58) (.none) (vs "law_no0377_01" 694) 395,
cA 402 "_law_year" "_law_year" 763 283 2 397 768,
fo 403 "_law_year" "_law_year" (dfAt 59) (.none) (vs "law_no0377_01" 694) 402,
cA 409 "_law_zone" "_law_zone" 771 289 1 404 778,
fo 410 "_law_zone" "_law_zone" (dfAt 60) (.none) (vs "law_no0377_01" 694) 409,
cB 414 "_law_atom" "_law_atom" 781 296 2 411 784,
fo 415 "_law_atom" "_law_atom" (dfAt 61) (.none) (vs "law_no0377_01" 694) 414,
cA 421 "_law_is_sign" "_law_is_sign" 787 300 3 416 793,
fo 422 "_law_is_sign" "_law_is_sign" (dfAt 62) (.none) (vs "law_no0377_01" 694) 421,
cB 426 "_law_is_number" "_law_is_number" 796 302 3 423 799,
fo 427 "_law_is_number" "_law_is_number" (dfAt 63) (.none) (vs "law_no0377_01" 694) 426,
cB 431 "_law_read" "_law_read" 802 304 2 428 805,
fo 432 "_law_read" "_law_read" (dfAt 64) (.none) (vs "law_no0377_01" 694) 431,
cA 438 "_law_weekday" "_law_weekday" 808 352 3 433 814,
fo 439 "_law_weekday" "_law_weekday" (dfAt 65) (.none) (vs "law_no0377_01" 694) 438,
cB 443 "law" "law" 817 356 1 440 820,
fo 444 "law" "law" (dfAt 66) (.none) (vs "law_no0377_01" 694) 443]
noncomputable def kas : List Addr := [3, 22, 28, 29, 35, 36, 38, 39, 40, 51, 52, 60, 61, 65, 66, 67, 73, 74, 80, 81, 87, 88, 94, 95, 101, 102, 108, 109, 115, 116, 122, 123, 129, 130, 134, 135, 136, 137, 150, 151, 157, 158, 160, 161, 162, 163, 171, 172, 178, 179, 185, 186, 192, 193, 199, 200, 206, 207, 213, 214, 220, 221, 225, 226, 230, 231, 237, 238, 244, 245, 249, 250, 254, 255, 261, 262, 266, 267, 280, 281, 287, 288, 292, 293, 299, 300, 306, 307, 313, 314, 316, 317, 318, 319, 327, 328, 334, 335, 341, 342, 348, 349, 353, 354, 358, 359, 365, 366, 367, 368, 374, 375, 381, 382, 388, 389, 395, 396, 402, 403, 409, 410, 414, 415, 421, 422, 426, 427, 431, 432, 438, 439, 443, 444]
theorem left_one {p q : Program} {loose : List Str} {Xt : Shared -> Bool} {α : Type} {Yf : Shared -> α} {Ya : World -> α} {N : Nat} {H : Params -> Heap} {gs : Array GenState} {d : Drawn} {k m : Nat} {ann : Option Value}
  (ho : ∀ w : World, (fencedOpening treeTable p w N).map (fun s => (s.heap, s.gens, s.drawn, s.toks)) = some (H w.params, gs, d, k))
  (hs : ∀ w : World, ((H w.params).isNs mainGlobals && gs.size == 0) = true /\ (H w.params).objs.size = m /\ (H w.params).nsMap mainGlobals "__annotations__" = ann)
  (hr : ∀ (w : World) (os : OsState), (topRun treeTable p w m ann N ⟨H w.params, gs, d, k, os⟩ (topStub p)).map (fun s => ((staticsOk (importedModules p.main.body) (H w.params) s.heap && namesBound p s.heap && gensDone s && laidKept (H w.params) s.heap), openSeen q loose (importedModules p.main.body) Xt true s, Yf s)) = some (true, openGood q loose, Ya w)) :
  LeftO p q loose Xt Yf Ya N := by
 intro w
 obtain ⟨⟨h, g, dr, t, os⟩, e1, e2⟩ := Option.map_eq_some_iff.mp (ho w)
 injection e2 with e3 e4
 injection e4 with e4 e5
 injection e5 with e5 e6
 dsimp only at e3 e4 e5 e6
 subst e3 e4 e5 e6
 obtain ⟨h1, h2, h3⟩ := hs w
 obtain ⟨s_1, r1, r2⟩ := Option.map_eq_some_iff.mp (hr w os)
 injection r2 with c1 c2
 have ht : topFrom treeTable p w N ⟨H w.params, g, dr, t, os⟩ = some s_1 := by
  unfold topFrom
  dsimp only
  rw [h1, h2, h3]
  dsimp only
  rw [r1]
  show (match _ with | true => some s_1 | false => none) = _
  rw [c1]
 unfold openEnds
 rw [e1]
 show ((topFrom treeTable p w N _).map _) = _
 rw [ht]
 exact congrArg some c2
noncomputable def vbody : List Stmt := (PySem.Challenge.pw_no0377_01.main.body.drop 1).take 2 ++ ((PySem.Challenge.pw_no0377_01.main.body.drop 4).take 2 ++ ((PySem.Challenge.pw_no0377_01.main.body.drop 7).take 14 ++ ((PySem.Challenge.pw_no0377_01.main.body.drop 22).take 28 ++ PySem.Challenge.pw_no0377_01.main.body.drop 51)))
noncomputable def vview : Program := { PySem.Challenge.pw_no0377_01 with main := { PySem.Challenge.pw_no0377_01.main with body := vbody } }
noncomputable abbrev vloose : List Str := ["PostError", "MOST_ZONE"]
noncomputable abbrev vlv : List (Str × WData) := [("MOST_ZONE", .int 5999)]
noncomputable abbrev vhook : Hook := kHook kobj kas (fun _ => by kernel_rfl)
theorem vopen (w : World) : (fencedOpening treeTable PySem.Challenge.pw_no0377_01 w 5580).map (fun s => (s.heap, s.gens, s.drawn, s.toks)) = some (boot_heap w.params, ⟨[]⟩, boot_drawn, boot_toks) :=
 boot_open (by kernel_rfl) (by decide +kernel) (fun s => by kernel_rfl) w
theorem vsize (w : World) : ((boot_heap w.params).isNs mainGlobals && (⟨[]⟩ : Array GenState).size == 0) = true /\ (boot_heap w.params).objs.size = 11 /\ (boot_heap w.params).nsMap mainGlobals "__annotations__" = some (.ref 6) := ⟨by kernel_rfl, by kernel_rfl, by kernel_rfl⟩
theorem vrun (w : World) (os : OsState) : (topRun treeTable PySem.Challenge.pw_no0377_01 w 11 (some (.ref 6)) 5580 ⟨boot_heap w.params, ⟨[]⟩, boot_drawn, boot_toks, os⟩ (topStub PySem.Challenge.pw_no0377_01)).map (fun s => ((staticsOk (importedModules PySem.Challenge.pw_no0377_01.main.body) (boot_heap w.params) s.heap && namesBound PySem.Challenge.pw_no0377_01 s.heap && gensDone s && laidKept (boot_heap w.params) s.heap), openSeen vview vloose (importedModules PySem.Challenge.pw_no0377_01.main.body) (fun s => xlAt vview vlv s && recOk (RowW.records PySem.Challenge.rw_no0377_01.row.toRowW) s) true s, vhook.obs s)) = some (true, openGood vview vloose, vhook.val w) := by
 simp only [PySem.W.Fast.te14364793385576792824, PySem.W.Fast.te14082659384304107361, PySem.W.Fast.te4187177175401517315, PySem.W.Fast.te5923862056798008813]
 kernel_rfl
theorem vleft : LeftO PySem.Challenge.pw_no0377_01 vview vloose (fun s => xlAt vview vlv s && recOk (RowW.records PySem.Challenge.rw_no0377_01.row.toRowW) s) vhook.obs vhook.val 5580 := left_one vopen vsize vrun
theorem k_said : PySem.Challenge.rw_no0377_01.wellSaid = true := by kernel_rfl
theorem k_ok : (chainsOk vview && opensWell PySem.Challenge.rw_no0377_01.row.toRowW.prog && (frees PySem.Challenge.rw_no0377_01.row.toRowW && PySem.Challenge.rw_no0377_01.row.toRowW.within.isEmpty)) = true := by decide +kernel
theorem k_bare : PySem.Challenge.rw_no0377_01.row.toRowW.prog.bare := ⟨rfl, rfl, rfl, rfl, rfl, by decide +kernel⟩
theorem k_prom : PySem.Challenge.rw_no0377_01.row.toRowW.promised := by w_witness2
namespace Om
inductive N where
  | v (i : Nat)
  | k (n : Nat)
  | a (x y : N)
  | m (c : Nat) (x : N)
inductive Z where
  | v (i : Nat)
  | k (n : Nat)
  | c (x : N)
  | a (x y : Z)
  | s (x y : Z)
  | g (x : Z)
  | m (c : Nat) (x : Z)
inductive P where
  | l (x y : N)
  | t (x y : N)
  | e (x y : N)
  | L (x y : Z)
  | T (x y : Z)
  | E (x y : Z)
  | n (p : P)
  | a (p q : P)
  | o (p q : P)
  | i (p q : P)
  | f
noncomputable def gN (d : List Nat) (i : Nat) : Nat := d.rec (fun _ => 0) (fun x _ r i => Nat.rec x (fun i _ => r i) i) i
noncomputable def gZ (d : List Int) (i : Nat) : Int := d.rec (fun _ => 0) (fun x _ r i => Nat.rec x (fun i _ => r i) i) i
noncomputable def N.ev (d : List Nat) : N -> Nat
  | .v i => gN d i
  | .k n => n
  | .a x y => x.ev d + y.ev d
  | .m c x => c * x.ev d
noncomputable def Z.ev (d : List Nat) (e : List Int) : Z -> Int
  | .v i => gZ e i
  | .k n => (n : Int)
  | .c x => (N.ev d x : Int)
  | .a x y => x.ev d e + y.ev d e
  | .s x y => x.ev d e - y.ev d e
  | .g x => - x.ev d e
  | .m j x => (j : Int) * x.ev d e
noncomputable def P.ev (d : List Nat) (e : List Int) : P -> Prop
  | .l x y => x.ev d <= y.ev d
  | .t x y => x.ev d < y.ev d
  | .e x y => x.ev d = y.ev d
  | .L x y => x.ev d e <= y.ev d e
  | .T x y => x.ev d e < y.ev d e
  | .E x y => x.ev d e = y.ev d e
  | .n p => ¬ p.ev d e
  | .a p q => p.ev d e /\ q.ev d e
  | .o p q => p.ev d e \/ q.ev d e
  | .i p q => p.ev d e -> q.ev d e
  | .f => False
noncomputable def AllZ (F : P) (d : List Nat) (m : Nat) : List Int -> Prop := m.rec (fun e => F.ev d e) (fun _ r e => ∀ x : Int, r (x :: e))
noncomputable def All (n m : Nat) (F : P) (d : List Nat) (e : List Int) : Prop := n.rec (motive := fun _ => List Nat -> Prop) (fun d => AllZ F d m e) (fun _ r d => ∀ x : Nat, r (x :: d)) d
inductive R where
  | c (l r : Nat)
  | v (l r : Nat) (t : R)
noncomputable def w (d : List Nat) (e : List Int) (k : Nat) : Int := if k % 2 = 0 then (gN d (k / 2) : Int) else gZ e (k / 2)
noncomputable def vl (f : Nat -> Int) : R -> Nat -> Int
  | .c l r, _ => (r : Int) - l
  | .v l r t, k => ((r : Int) - l) * f k + vl f t (k + 1)
noncomputable def adc (l r : Nat) (y : R) : R := y.rec (fun l' r' => .c (Nat.add l l') (Nat.add r r')) (fun l' r' _ ih => .v l' r' ih)
noncomputable def add (x : R) : R -> R := x.rec (fun l r y => adc l r y) (fun l r _ ih y => y.rec (fun l' r' => .v l r (ih (.c l' r'))) (fun l' r' t' _ => .v (Nat.add l l') (Nat.add r r') (ih t')))
noncomputable def sc (m : Nat) (x : R) : R := x.rec (fun l r => .c (Nat.mul m l) (Nat.mul m r)) (fun l r _ ih => .v (Nat.mul m l) (Nat.mul m r) ih)
noncomputable def sw (x : R) : R := x.rec (fun l r => .c r l) (fun l r _ ih => .v r l ih)
noncomputable def un (i : Nat) : R := i.rec (.v 0 1 (.c 0 0)) (fun _ ih => .v 0 0 ih)
section
variable (f : Nat -> Int)
theorem s4 (a b c d : Int) : a + b - (c + d) = (a - c) + (b - d) := by omega
theorem vl_adc (l r : Nat) (y : R) (k : Nat) : vl f (adc l r y) k = ((r : Int) - l) + vl f y k := by
  induction y generalizing k with
  | c l' r' => show (((r + r' : Nat) : Int) - ((l + l' : Nat) : Int)) = _ + (_ - _); rw [Int.natCast_add, Int.natCast_add]; exact s4 ..
  | v l' r' t ih => show _ + vl f (adc l r t) (k + 1) = _ + (_ + _); rw [ih]; exact Int.add_left_comm ..
theorem gi (x y : R) (k : Nat) : vl f (add x y) k = vl f x k + vl f y k := by
  induction x generalizing y k with
  | c l r => exact vl_adc f l r y k
  | v l r t ih => cases y with
    | c l' r' => show _ + vl f (add t (.c l' r')) (k + 1) = (_ + _) + _; rw [ih]; exact (Int.add_assoc ..).symm
    | v l' r' t' =>
      show (((r + r' : Nat) : Int) - ((l + l' : Nat) : Int)) * f k + vl f (add t t') (k + 1) = (_ + _) + (_ + _)
      rw [ih, Int.natCast_add, Int.natCast_add, s4, Int.add_mul, Int.add_assoc, Int.add_assoc, Int.add_left_comm (((r' : Int) - l') * f k)]
theorem vl_sc (m : Nat) (x : R) (k : Nat) : vl f (sc m x) k = m * vl f x k := by
  induction x generalizing k with
  | c l r => show ((m * r : Nat) : Int) - ((m * l : Nat) : Int) = m * (_ - _); rw [Int.natCast_mul, Int.natCast_mul, Int.mul_sub]
  | v l r t ih => show (((m * r : Nat) : Int) - ((m * l : Nat) : Int)) * _ + vl f (sc m t) _ = m * (_ + _); rw [ih, Int.natCast_mul, Int.natCast_mul, <- Int.mul_sub, Int.mul_add, Int.mul_assoc]
theorem vl_sw (x : R) (k : Nat) : vl f (sw x) k = - vl f x k := by
  induction x generalizing k with
  | c l r => exact (Int.neg_sub _ _).symm
  | v l r t ih => show ((l : Int) - r) * _ + vl f (sw t) _ = -(_ + _); rw [ih, Int.neg_add, <- Int.neg_mul, Int.neg_sub]
theorem vl_un (i k : Nat) : vl f (un i) k = f (k + i) := by
  induction i generalizing k with
  | zero => show ((1 : Int) - 0) * f k + ((0 : Int) - 0) = f k; rw [Int.sub_zero, Int.one_mul]; exact Int.add_zero _
  | succ i ih => show ((0 : Int) - 0) * f k + vl f (un i) (k + 1) = _; rw [ih, Int.sub_self, Int.zero_mul, Int.zero_add, Nat.add_right_comm]; rfl
end
noncomputable def N.row (x : N) : R := x.rec (fun i => un (Nat.mul 2 i)) (fun n => .c 0 n) (fun _ _ a b => add a b) (fun j _ a => sc j a)
noncomputable def Z.row (x : Z) : R := x.rec (fun i => un (Nat.succ (Nat.mul 2 i))) (fun n => .c 0 n) (fun x => x.row) (fun _ _ a b => add a b) (fun _ _ a b => add a (sw b)) (fun _ a => sw a) (fun j _ a => sc j a)
section
variable (d : List Nat) (e : List Int)
theorem w_even (i : Nat) : w d e (2 * i) = gN d i := by
  unfold w; rw [if_pos (Nat.mul_mod_right 2 i), Nat.mul_div_cancel_left _ (by decide)]
theorem w_odd (i : Nat) : w d e (2 * i + 1) = gZ e i := by
  unfold w; rw [if_neg (by rw [Nat.mul_add_mod]; decide), Nat.mul_add_div (by decide)]; rfl
theorem N.row_ev (x : N) : vl (w d e) x.row 0 = x.ev d := by
  induction x with
  | v i => show vl _ (un _) 0 = _; rw [vl_un, Nat.zero_add]; exact w_even d e i
  | k n => exact Int.sub_zero _
  | a x y h1 h2 => show vl _ (add x.row y.row) 0 = _; rw [gi, h1, h2]; rfl
  | m c x h => show vl _ (sc c x.row) 0 = _; rw [vl_sc, h]; rfl
theorem Z.row_ev (x : Z) : vl (w d e) x.row 0 = x.ev d e := by
  induction x with
  | v i => show vl _ (un (2 * i + 1)) 0 = _; rw [vl_un, Nat.zero_add]; exact w_odd d e i
  | k n => exact Int.sub_zero _
  | c x => exact N.row_ev d e x
  | a x y h1 h2 => show vl _ (add x.row y.row) 0 = _; rw [gi, h1, h2]; rfl
  | s x y h1 h2 => show vl _ (add x.row (sw y.row)) 0 = _; rw [gi, vl_sw, h1, h2]; rfl
  | g x h => show vl _ (sw x.row) 0 = _; rw [vl_sw, h]; rfl
  | m c x h => show vl _ (sc c x.row) 0 = _; rw [vl_sc, h]; rfl
end
noncomputable def df (x y : R) (c : Nat) : R := adc c 0 (add y (sw x))
theorem df_ev (f : Nat -> Int) (x y : R) (c : Nat) (k : Nat) : vl f (df x y c) k = vl f y k - vl f x k - c := by
  show vl f (adc _ _ (add _ (sw _))) k = _; rw [vl_adc, gi, vl_sw]; show (0 : Int) - c + (_ + -_) = _; rw [Int.add_comm, Int.zero_sub]; rfl
noncomputable def bi {α : Type} (b : Bool) (x y : α) : α := b.rec y x
noncomputable def gc (x : R) : Nat := x.rec (fun _ _ => 0) (fun l r _ ih => Nat.gcd (Nat.add (Nat.sub l r) (Nat.sub r l)) ih)
noncomputable def dok (g : Nat) (x : R) : Bool := x.rec (fun _ _ => true) (fun l r _ ih => bi (Nat.beq (Nat.mul g (Nat.div (Nat.sub l r) g)) (Nat.sub l r) && Nat.beq (Nat.mul g (Nat.div (Nat.sub r l) g)) (Nat.sub r l)) ih false)
noncomputable def dv (g : Nat) (x : R) : R := x.rec (fun l r => .c (Nat.div (Nat.add (Nat.sub l r) (Nat.sub g 1)) g) (Nat.div (Nat.sub r l) g)) (fun l r _ ih => .v (Nat.div (Nat.sub l r) g) (Nat.div (Nat.sub r l) g) ih)
noncomputable def tg (x : R) : R := bi (Nat.ble 2 (gc x) && dok (gc x) x) (dv (gc x) x) x
noncomputable def cr1 (p : Nat) (t : R) (S : List R) : List R := S.rec [] (fun s _ ih => s.rec (fun _ _ => ih) (fun l r u _ => bi (Nat.ble l r) ih (tg (add (sc (Nat.sub l r) t) (sc p u)) :: ih)))
noncomputable def cr (A S : List R) : List R := S.rec [] (fun s _ ih => s.rec (fun l r => bi (Nat.ble l r) ih (.c l r :: ih)) (fun l r t _ => bi (Nat.beq l r) (t :: ih) (bi (Nat.ble l r) (cr1 (Nat.sub r l) t A ++ ih) ih)))
noncomputable def bad (S : List R) : Bool := S.rec false (fun s _ ih => s.rec (fun l r => !(Nat.ble l r) || ih) (fun _ _ _ _ => ih))
noncomputable def fm (n : Nat) : List R -> Bool := n.rec bad (fun _ ih S => ih (cr S S))
section
variable {f : Nat -> Int}
noncomputable def Ok (f : Nat -> Int) (k : Nat) (S : List R) : Prop := ∀ r ∈ S, 0 <= vl f r k
theorem ok_nil {k : Nat} : Ok f k [] := fun _ h => nomatch h
theorem eq {k : Nat} {r : R} {S : List R} (h : 0 <= vl f r k) (hs : Ok f k S) : Ok f k (r :: S) := fun x hx => by
  rcases List.mem_cons.mp hx with rfl | hx
  · exact h
  · exact hs x hx
theorem ok_app {k : Nat} {S T : List R} (h : Ok f k S) (hs : Ok f k T) : Ok f k (S ++ T) := fun x hx => by
  rcases List.mem_append.mp hx with hx | hx
  · exact h x hx
  · exact hs x hx
theorem fO {k : Nat} {r : R} {S : List R} (h : Ok f k (r :: S)) : Ok f k S := fun x hx => h x (.tail _ hx)
theorem sub_sub (l r : Nat) : (r : Int) - l = (Nat.sub r l : Nat) - (Nat.sub l r : Nat) := by
  rcases Nat.le_total l r with h | h
  · rw [show Nat.sub l r = 0 from Nat.sub_eq_zero_of_le h, show ((Nat.sub r l : Nat) : Int) = (r : Int) - l from Int.natCast_sub h]; exact (Int.sub_zero _).symm
  · rw [show Nat.sub r l = 0 from Nat.sub_eq_zero_of_le h, show ((Nat.sub l r : Nat) : Int) = (l : Int) - r from Int.natCast_sub h]; exact ((Int.zero_sub _).trans (Int.neg_sub _ _)).symm
theorem dv_ok {g : Nat} (hg : 0 < g) {x : R} {k : Nat} (h : dok g x = true) : vl f x k <= g * vl f (dv g x) k + (g - 1) := by
  induction x generalizing k with
  | c l r =>
    show (r : Int) - l <= g * (((Nat.div (Nat.sub r l) g : Nat) : Int) - ((Nat.div (Nat.add (Nat.sub l r) (Nat.sub g 1)) g : Nat) : Int)) + (g - 1)
    rw [sub_sub l r, Int.mul_sub]
    have a : Nat.sub r l < g * (Nat.div (Nat.sub r l) g + 1) := Nat.lt_mul_div_succ (Nat.sub r l) hg
    have b : g * Nat.div (Nat.add (Nat.sub l r) (Nat.sub g 1)) g <= Nat.sub l r + (g - 1) := Nat.mul_div_le _ g
    have z : Nat.sub l r = 0 /\ Nat.div (Nat.add (Nat.sub l r) (Nat.sub g 1)) g = 0 \/ Nat.sub r l = 0 := by
      rcases Nat.le_total l r with h | h
      · have e : Nat.sub l r = 0 := Nat.sub_eq_zero_of_le h
        refine .inl ⟨e, ?_⟩
        rw [e]
        exact Nat.div_eq_of_lt (Nat.lt_of_le_of_lt (Nat.le_of_eq (Nat.zero_add _)) (Nat.sub_lt hg (by decide)))
      · exact .inr (Nat.sub_eq_zero_of_le h)
    generalize Nat.div (Nat.sub r l) g = u at a ⊢
    generalize Nat.div (Nat.add (Nat.sub l r) (Nat.sub g 1)) g = v at b z ⊢
    generalize Nat.sub r l = x at a z ⊢
    generalize Nat.sub l r = y at b z ⊢
    rw [Nat.mul_add, Nat.mul_one] at a
    rw [<- Int.natCast_mul, <- Int.natCast_mul]
    rcases z with ⟨z1, z2⟩ | z1
    · rw [z1, z2]; omega
    · rw [z1]; have := Nat.zero_le (g * u); omega
  | v l r t ih =>
    have h : bi (Nat.beq (Nat.mul g (Nat.div (Nat.sub l r) g)) (Nat.sub l r) && Nat.beq (Nat.mul g (Nat.div (Nat.sub r l) g)) (Nat.sub r l)) (dok g t) false = true := h
    cases hc : (Nat.beq (Nat.mul g (Nat.div (Nat.sub l r) g)) (Nat.sub l r) && Nat.beq (Nat.mul g (Nat.div (Nat.sub r l) g)) (Nat.sub r l)) with
    | false => rw [hc] at h; injection h
    | true =>
      rw [hc] at h
      have h : dok g t = true := h
      obtain ⟨h1, h2⟩ := Bool.and_eq_true_iff.mp hc
      have h1 := Nat.eq_of_beq_eq_true h1
      have h2 := Nat.eq_of_beq_eq_true h2
      have := ih (k := k + 1) h
      show ((r : Int) - l) * f k + vl f t (k + 1) <= g * ((((Nat.div (Nat.sub r l) g : Nat) : Int) - ((Nat.div (Nat.sub l r) g : Nat) : Int)) * f k + vl f (dv g t) (k + 1)) + (g - 1)
      rw [Int.mul_add, <- Int.mul_assoc, Int.mul_sub]
      have e1 : (g : Int) * ((Nat.div (Nat.sub r l) g : Nat) : Int) = ((Nat.sub r l : Nat) : Int) := by exact_mod_cast h2
      have e2 : (g : Int) * ((Nat.div (Nat.sub l r) g : Nat) : Int) = ((Nat.sub l r : Nat) : Int) := by exact_mod_cast h1
      rw [e1, e2, <- sub_sub, Int.add_assoc]
      exact Int.add_le_add_left this _
theorem tg_ok {x : R} {k : Nat} (h : 0 <= vl f x k) : 0 <= vl f (tg x) k := by
  show 0 <= vl f (bi (Nat.ble 2 (gc x) && dok (gc x) x) (dv (gc x) x) x) k
  cases hc : (Nat.ble 2 (gc x) && dok (gc x) x) with
  | false => exact h
  | true =>
    obtain ⟨h1, h2⟩ := Bool.and_eq_true_iff.mp hc
    have hg : 0 < gc x := Nat.lt_of_lt_of_le (by decide) (Nat.le_of_ble_eq_true h1)
    have a := Int.le_trans h (dv_ok hg h2)
    have hg : (0 : Int) < gc x := Int.natCast_pos.mpr hg
    refine Int.not_lt.mp fun (hn : vl f (dv (gc x) x) k < 0) => ?_
    have b := Int.mul_le_mul_of_nonneg_left (Int.le_sub_one_of_lt hn) (Int.le_of_lt hg)
    rw [Int.zero_sub, Int.mul_neg, Int.mul_one] at b
    omega
theorem mix {p q a t u : Int} (hp : 0 <= p) (hq : 0 <= q) (h1 : 0 <= p * a + t) (h2 : 0 <= -q * a + u) : 0 <= q * t + p * u := by
  have x := Int.add_nonneg (Int.mul_nonneg hq h1) (Int.mul_nonneg hp h2)
  rw [Int.mul_add, Int.mul_add, <- Int.mul_assoc, <- Int.mul_assoc, Int.mul_neg, Int.mul_comm q p, Int.neg_mul] at x
  omega
theorem ok_cr1 {k p : Nat} {t : R} {S : List R} (h1 : 0 <= (p : Int) * f k + vl f t (k + 1)) (h : Ok f k S) : Ok f (k + 1) (cr1 p t S) := by
  induction S with
  | nil => exact ok_nil
  | cons s S ih =>
    have ih := ih (fO h)
    have hs := h s (.head _)
    cases s with
    | c l r => exact ih
    | v l r u =>
      show Ok f (k + 1) (bi (Nat.ble l r) _ _)
      cases hb : Nat.ble l r with
      | true => exact ih
      | false =>
        have hs : 0 <= ((r : Int) - l) * f k + vl f u (k + 1) := hs
        have hl : r < l := Nat.lt_of_not_le fun y => by rw [Nat.ble_eq_true_of_le y] at hb; injection hb
        refine eq (tg_ok ?_) ih
        rw [gi, vl_sc, vl_sc]
        refine mix (a := f k) (Int.natCast_nonneg _) (Int.natCast_nonneg _) h1 ?_
        rw [show (-((Nat.sub l r : Nat) : Int)) = (r : Int) - l from by rw [show ((Nat.sub l r : Nat) : Int) = (l : Int) - r from Int.natCast_sub (Nat.le_of_lt hl)]; exact Int.neg_sub _ _]
        exact hs
theorem ok_cr {k : Nat} {A S : List R} (h : Ok f k A) (hs : Ok f k S) : Ok f (k + 1) (cr A S) := by
  induction S with
  | nil => exact ok_nil
  | cons s S ih =>
    have ih := ih (fO hs)
    have hs := hs s (.head _)
    cases s with
    | c l r =>
      show Ok f (k + 1) (bi (Nat.ble l r) _ _)
      cases Nat.ble l r with
      | true => exact ih
      | false => exact eq hs ih
    | v l r t =>
      have hs : 0 <= ((r : Int) - l) * f k + vl f t (k + 1) := hs
      show Ok f (k + 1) (bi (Nat.beq l r) _ (bi (Nat.ble l r) _ _))
      cases hb : Nat.beq l r with
      | true =>
        rw [Nat.eq_of_beq_eq_true hb, Int.sub_self, Int.zero_mul, Int.zero_add] at hs
        exact eq hs ih
      | false => cases hc : Nat.ble l r with
        | false => exact ih
        | true =>
          have hl := Nat.le_of_ble_eq_true hc
          refine ok_app (ok_cr1 ?_ h) ih
          rw [show ((Nat.sub r l : Nat) : Int) = (r : Int) - l from Int.natCast_sub hl]
          exact hs
theorem bad_ok {k : Nat} {S : List R} (h : Ok f k S) : bad S = true -> False := by
  induction S with
  | nil => intro h; injection h
  | cons s S ih =>
    have hs := h s (.head _)
    intro hb
    cases s with
    | v l r t => exact ih (fO h) hb
    | c l r =>
      rcases Bool.or_eq_true_iff.mp hb with hb | hb
      · have hs : 0 <= (r : Int) - l := hs
        rw [Nat.ble_eq_true_of_le (Int.ofNat_le.mp (Int.le_of_sub_nonneg hs))] at hb
        injection hb
      · exact ih (fO h) hb
theorem fm_ok {n k : Nat} {S : List R} (h : Ok f k S) : fm n S = true -> False := by
  induction n generalizing k S with
  | zero => exact bad_ok h
  | succ n ih => exact ih (ok_cr h h)
end
noncomputable def tw (b x y : Bool) : Bool := b.rec y x
noncomputable def ref (p : P) : Bool -> (List R -> Bool) -> List R -> Bool :=
  p.rec
    (fun x y b K S => tw b (K (df x.row y.row 0 :: S)) (K (df y.row x.row 1 :: S)))
    (fun x y b K S => tw b (K (df x.row y.row 1 :: S)) (K (df y.row x.row 0 :: S)))
    (fun x y b K S => tw b (K (df x.row y.row 0 :: df y.row x.row 0 :: S)) (K (df x.row y.row 1 :: S) && K (df y.row x.row 1 :: S)))
    (fun x y b K S => tw b (K (df x.row y.row 0 :: S)) (K (df y.row x.row 1 :: S)))
    (fun x y b K S => tw b (K (df x.row y.row 1 :: S)) (K (df y.row x.row 0 :: S)))
    (fun x y b K S => tw b (K (df x.row y.row 0 :: df y.row x.row 0 :: S)) (K (df x.row y.row 1 :: S) && K (df y.row x.row 1 :: S)))
    (fun _ g b K S => g (!b) K S)
    (fun _ _ g h b K S => tw b (g true (h true K) S) (g false K S && h false K S))
    (fun _ _ g h b K S => tw b (g true K S && h true K S) (g false (h false K) S))
    (fun _ _ g h b K S => tw b (g false K S && h true K S) (g true (h false K) S))
    (fun b K S => tw b true (K S))
noncomputable def Tr (p : Prop) (b : Bool) : Prop := b.rec (¬ p) p
section
variable {d : List Nat} {e : List Int}
theorem fQ {x y : R} {S : List R} (h : Ok (w d e) 0 S) (q : vl (w d e) x 0 <= vl (w d e) y 0) : Ok (w d e) 0 (df x y 0 :: S) :=
  eq (by rw [df_ev]; exact Int.sub_nonneg_of_le (by rw [show ((0 : Nat) : Int) = 0 from rfl]; exact Int.sub_nonneg_of_le q)) h
theorem fP {x y : R} {S : List R} (h : Ok (w d e) 0 S) (q : vl (w d e) x 0 < vl (w d e) y 0) : Ok (w d e) 0 (df x y 1 :: S) :=
  eq (by rw [df_ev]; exact Int.sub_nonneg_of_le (Int.le_sub_left_of_add_le (Int.add_one_le_of_lt q))) h
theorem nle {x y : N} (h : x.ev d <= y.ev d) : vl (w d e) x.row 0 <= vl (w d e) y.row 0 := by rw [N.row_ev, N.row_ev]; exact Int.ofNat_le.mpr h
theorem nlt {x y : N} (h : x.ev d < y.ev d) : vl (w d e) x.row 0 < vl (w d e) y.row 0 := by rw [N.row_ev, N.row_ev]; exact Int.ofNat_lt.mpr h
theorem zle {x y : Z} (h : x.ev d e <= y.ev d e) : vl (w d e) x.row 0 <= vl (w d e) y.row 0 := by rw [Z.row_ev, Z.row_ev]; exact h
theorem zlt {x y : Z} (h : x.ev d e < y.ev d e) : vl (w d e) x.row 0 < vl (w d e) y.row 0 := by rw [Z.row_ev, Z.row_ev]; exact h
theorem two {a b : Bool} (h : (a && b) = true) : a = true /\ b = true := Bool.and_eq_true_iff.mp h
theorem ref_ok (p : P) : ∀ {b : Bool} {K : List R -> Bool} {S : List R}, Tr (p.ev d e) b -> (∀ S, Ok (w d e) 0 S -> K S = true -> False) -> Ok (w d e) 0 S -> ref p b K S = true -> False := by
  induction p with
  | l x y => intro b K S t k o z; cases b with
    | true => exact k _ (fQ o (nle t)) z
    | false => exact k _ (fP o (nlt (Nat.lt_of_not_le t))) z
  | t x y => intro b K S t k o z; cases b with
    | true => exact k _ (fP o (nlt t)) z
    | false => exact k _ (fQ o (nle (Nat.le_of_not_lt t))) z
  | e x y => intro b K S t k o z; cases b with
    | true => exact k _ (fQ (fQ o (nle (Nat.le_of_eq (Eq.symm t)))) (nle (Nat.le_of_eq t))) z
    | false => rcases Nat.lt_or_gt_of_ne t with u | u
               · exact k _ (fP o (nlt u)) (two z).1
               · exact k _ (fP o (nlt u)) (two z).2
  | L x y => intro b K S t k o z; cases b with
    | true => exact k _ (fQ o (zle t)) z
    | false => exact k _ (fP o (zlt (Int.not_le.mp t))) z
  | T x y => intro b K S t k o z; cases b with
    | true => exact k _ (fP o (zlt t)) z
    | false => exact k _ (fQ o (zle (Int.not_lt.mp t))) z
  | E x y => intro b K S t k o z; cases b with
    | true => exact k _ (fQ (fQ o (zle (Int.le_of_eq (Eq.symm t)))) (zle (Int.le_of_eq t))) z
    | false => rcases Int.lt_or_gt_of_ne t with u | u
               · exact k _ (fP o (zlt u)) (two z).1
               · exact k _ (fP o (zlt u)) (two z).2
  | n p ih => intro b K S t k o z; cases b with
    | true => exact ih (b := false) t k o z
    | false => exact ih (b := true) (Classical.not_not.mp t) k o z
  | a p q ih ih' => intro b K S t k o z; cases b with
    | true => exact ih (b := true) t.1 (fun S o z => ih' (b := true) t.2 k o z) o z
    | false => rcases Classical.not_and_iff_not_or_not.mp t with u | u
               · exact ih (b := false) u k o (two z).1
               · exact ih' (b := false) u k o (two z).2
  | o p q ih ih' => intro b K S t k o z; cases b with
    | true => rcases (t : _ \/ _) with u | u
              · exact ih (b := true) u k o (two z).1
              · exact ih' (b := true) u k o (two z).2
    | false => exact ih (b := false) (fun y => t (.inl y)) (fun S o z => ih' (b := false) (fun y => t (.inr y)) k o z) o z
  | i p q ih ih' => intro b K S t k o z; cases b with
    | true => rcases Classical.em (p.ev d e) with y | y
              · exact ih' (b := true) (t y) k o (two z).2
              · exact ih (b := false) y k o (two z).1
    | false => exact ih (b := true) (Classical.byContradiction fun y => t fun u => (y u).elim) (fun S o z => ih' (b := false) (fun y => t fun _ => y) k o z) o z
  | f => intro b K S t k o z; cases b with
    | true => exact t
    | false => exact k _ o z
end
noncomputable def nn (n : Nat) : List R := n.rec [] (fun i ih => un (Nat.mul 2 i) :: ih)
theorem nn_ok {d : List Nat} {e : List Int} (n : Nat) : Ok (w d e) 0 (nn n) := by
  induction n with
  | zero => exact ok_nil
  | succ n ih => exact eq (by show 0 <= vl _ (un (2 * n)) 0; rw [vl_un, Nat.zero_add, w_even]; exact Int.natCast_nonneg _) ih
noncomputable def chk (n m : Nat) (F : P) : Bool := ref F false (fm (Nat.mul 2 (Nat.add n m))) (nn n)
theorem all_of {F : P} (H : ∀ d e, F.ev d e) (n m : Nat) : All n m F [] [] := by
  have h1 : ∀ (m : Nat) (d : List Nat) (e : List Int), AllZ F d m e := fun m => by
    induction m with
    | zero => exact H
    | succ m ih => exact fun d e x => ih d (x :: e)
  have h2 : ∀ (n : Nat) (d : List Nat) (e : List Int), All n m F d e := fun n => by
    induction n with
    | zero => exact fun d e => h1 m d e
    | succ n ih => exact fun d e x => ih (x :: d) e
  exact h2 n [] []
theorem q (n m : Nat) (F : P) (h : chk n m F = true := by kernel_rfl) : All n m F [] [] :=
  all_of (fun _ _ => Classical.byContradiction fun z => ref_ok (b := false) F z (fun _ o => fm_ok o) (nn_ok n) h) n m
noncomputable abbrev N.x0 : N := .v 0
noncomputable abbrev Z.x0 : Z := .v 0
noncomputable abbrev N.x1 : N := .v 1
noncomputable abbrev Z.x1 : Z := .v 1
noncomputable abbrev N.x2 : N := .v 2
noncomputable abbrev Z.x2 : Z := .v 2
noncomputable abbrev N.x3 : N := .v 3
noncomputable abbrev Z.x3 : Z := .v 3
noncomputable abbrev N.x4 : N := .v 4
noncomputable abbrev Z.x4 : Z := .v 4
noncomputable abbrev N.x5 : N := .v 5
noncomputable abbrev Z.x5 : Z := .v 5
noncomputable abbrev N.x6 : N := .v 6
noncomputable abbrev Z.x6 : Z := .v 6
noncomputable abbrev N.x7 : N := .v 7
noncomputable abbrev Z.x7 : Z := .v 7
noncomputable abbrev N.k0 : N := .k 0
noncomputable abbrev N.k1 : N := .k 1
noncomputable abbrev Z.k0 : Z := .k 0
noncomputable abbrev Z.k1 : Z := .k 1
theorem lo {j k x : Nat} (h : k <= x) (e : Nat.ble j k = true := by with_unfolding_all rfl) : j <= x := Nat.le_trans (Nat.le_of_ble_eq_true e) h
theorem hi {j k x : Nat} (h : x <= k) (e : Nat.ble k j = true := by with_unfolding_all rfl) : x <= j := Nat.le_trans h (Nat.le_of_ble_eq_true e)
theorem rm {j k x y : Nat} (h : k <= x) (h' : y = x - 1) (e : Nat.ble (j + 1) k = true := by with_unfolding_all rfl) : j <= y := by
  rw [h']
  exact Nat.le_sub_one_of_lt (Nat.le_trans (Nat.le_of_ble_eq_true e) h)
theorem rn {j k x y : Nat} (h' : y = x - 1) (h : k <= x) (e : Nat.ble (j + 1) k = true := by with_unfolding_all rfl) : j <= y := rm h h' e
theorem re {j k x y : Nat} (h' : y = x) (h : k <= x) (e : Nat.ble j k = true := by with_unfolding_all rfl) : j <= y := h' ▸ lo h e
theorem za {x : Int} (h : 0 <= x) : 0 <= x + 1 := Int.add_nonneg h (by decide)
theorem zh {x k j : Int} (h : x <= k) (e : k < j := by with_unfolding_all decide) : x < j := Int.lt_of_le_of_lt h e
theorem rr {j k x y z : Nat} (h2 : z = y) (h' : y = x - 1) (h : k <= x) (e : Nat.ble (j + 1) k = true := by with_unfolding_all rfl) : j <= z := h2 ▸ rm h h' e
theorem zb {x : Int} (h : 0 <= x) : 0 <= x + 2 := Int.add_nonneg h (by decide)
theorem zr {x j : Int} {n k : Nat} (h : x <= n) (h' : n <= k) (e : (k : Int) < j := by with_unfolding_all decide) : x < j := Int.lt_of_le_of_lt (Int.le_trans h (Int.ofNat_le.mpr h')) e
theorem zs {x c j : Int} {n k : Nat} (h : x < n) (h' : n <= k) (e : (k : Int) + c <= j := by with_unfolding_all decide) : x + c < j := Int.lt_of_lt_of_le (Int.add_lt_add_right (Int.lt_of_lt_of_le h (Int.ofNat_le.mpr h')) c) e
theorem la {α : Type} {a b : List α} {m n k : Nat} (h : a.length <= m) (h' : b.length <= n) (e : Nat.ble (m + n) k = true := by with_unfolding_all rfl) : (a ++ b).length <= k := by rw [List.length_append]; exact Nat.le_trans (Nat.add_le_add h h') (Nat.le_of_ble_eq_true e)
theorem lb {α : Type} {a b : List α} {m n k : Nat} (h : a.length <= m) (h' : b.length <= n) (e : Nat.ble (m + n) k = true := by with_unfolding_all rfl) : a.length + b.length <= k := Nat.le_trans (Nat.add_le_add h h') (Nat.le_of_ble_eq_true e)
theorem sbo (a b : Nat) : (b <= a /\ a - b + b = a) \/ (a < b /\ a - b = 0) := (Nat.lt_or_ge a b).elim (fun h => .inr ⟨h, Nat.sub_eq_zero_of_le (Nat.le_of_lt h)⟩) fun h => .inl ⟨h, Nat.sub_add_cancel h⟩
theorem tno (z : Int) : (0 <= z /\ (z.toNat : Int) = z) \/ (z < 0 /\ z.toNat = 0) := (Int.lt_or_le z 0).elim (fun h => .inr ⟨h, Int.toNat_of_nonpos (Int.le_of_lt h)⟩) fun h => .inl ⟨h, Int.toNat_of_nonneg h⟩
theorem mn (a b : Nat) : (a <= b /\ min a b = a) \/ (b < a /\ min a b = b) := (Nat.lt_or_ge b a).elim (fun h => .inr ⟨h, Nat.min_eq_right (Nat.le_of_lt h)⟩) fun h => .inl ⟨h, Nat.min_eq_left h⟩
theorem nab (z : Int) : (0 <= z /\ (z.natAbs : Int) = z) \/ (z < 0 /\ (z.natAbs : Int) = -z) := (Int.lt_or_le z 0).elim (fun h => .inr ⟨h, Int.ofNat_natAbs_of_nonpos (Int.le_of_lt h)⟩) fun h => .inl ⟨h, Int.natAbs_of_nonneg h⟩
theorem ndv (x k : Nat) (h : Nat.blt 0 k = true) : k * (x / k) <= x /\ x < k * (x / k) + k := by
  have h := Nat.le_of_ble_eq_true h
  refine ⟨Nat.mul_div_le x k, ?_⟩
  have a := Nat.div_add_mod x k
  have b := Nat.mod_lt x h
  omega
theorem zdv (x : Int) (k : Nat) (h : Nat.blt 0 k = true) : (k : Int) * (x / (k : Int)) <= x /\ x < (k : Int) * (x / (k : Int)) + (k : Int) := by
  have h := Nat.le_of_ble_eq_true h
  have h : (0 : Int) < k := by omega
  have a := Int.mul_ediv_add_emod x k
  have b := Int.emod_nonneg x (Int.ne_of_gt h)
  have c := Int.emod_lt_of_pos x h
  omega
end Om
noncomputable abbrev Om.P.f0 : Om.P := (.i (.L .k0 .x0) (.L .k0 (.a .x0 .k1)))
noncomputable abbrev Om.P.f1 : Om.P := (.i (.L .k0 .x0) (.i (.T .x0 (.c .x1)) (.i (.o (.a (.L .k0 .x0) (.E (.c .x0) .x0)) (.a (.T .x0 .k0) (.e .x0 .k0))) (.t .x0 .x1))))
noncomputable abbrev Om.P.f2 : Om.P := (.i (.L .k1 .x0) (.i (.L .x0 (.k 9999)) (.L .k0 .x0)))
noncomputable abbrev Om.P.f3 : Om.P := (.i (.a (.l (.k 48) .x0) (.l .x0 (.k 57))) (.t .x0 (.k 128)))
noncomputable abbrev Om.P.f4 : Om.P := (.i (.L .k1 .x0) (.i (.L .x0 (.k 9999)) (.T .x0 (.k 1000000000))))
noncomputable abbrev Om.P.f5 : Om.P := (.i (.T .x0 (.c .x0)) (.L (.a .x0 .k1) (.c .x0)))
noncomputable abbrev Om.P.f6 : Om.P := (.i (.L .k0 .x0) (.i (.T .x0 (.k 2)) (.o (.E .x0 .k0) (.E .x0 .k1))))
noncomputable abbrev Om.P.f7 : Om.P := (.i (.n (.T .x0 (.c .x0))) (.i (.T .x0 (.c .x0)) .f))
noncomputable abbrev Om.P.f8 : Om.P := (.i (.t .x2 .x1) (.i (.o (.a (.l .k1 .x1) (.e (.a .x0 .k1) .x1)) (.a (.t .x1 .k1) (.e .x0 .k0))) (.e .x1 (.a .x0 .k1))))
noncomputable abbrev Om.P.f9 : Om.P := (.i (.L .k1 .x0) (.i (.L .x0 (.k 12)) (.i (.o (.a (.L .k0 (.s .x0 .k1)) (.E (.c .x0) (.s .x0 .k1))) (.a (.T (.s .x0 .k1) .k0) (.e .x0 .k0))) (.t .x0 (.k 12)))))
noncomputable abbrev Om.P.f10 : Om.P := (.i (.L .k1 .x0) (.i (.L .x0 (.k 12)) (.L .k0 (.s .x0 .k1))))
noncomputable abbrev Om.P.f11 : Om.P := (.L (.a (.a .x0 .k1) .k1) (.a .x0 (.k 2)))
noncomputable abbrev Om.P.f12 : Om.P := (.i (.L .k1 .x0) (.i (.L .x0 (.k 31)) (.L .k0 .x0)))
noncomputable abbrev Om.P.f13 : Om.P := (.i (.L .k0 .x0) (.i (.L .x0 (.k 23)) (.T .x0 (.k 1000000000))))
noncomputable abbrev Om.P.f14 : Om.P := (.i (.L .k0 .x0) (.i (.L .x0 (.k 59)) (.T .x0 (.k 1000000000))))
noncomputable abbrev Om.P.f15 : Om.P := (.i (.L .k0 .x0) (.i (.L .x0 (.k 60)) (.T .x0 (.k 1000000000))))
noncomputable abbrev Om.P.f16 : Om.P := (.i (.e .x0 (.k 2)) (.L (.k 2) (.c .x0)))
noncomputable abbrev Om.P.f17 : Om.P := (.i (.e .x0 (.k 2)) (.L (.c .x0) (.k 2)))
noncomputable abbrev Om.P.f18 : Om.P := (.i (.L .k0 .x0) (.n (.T .x0 .k0)))
noncomputable abbrev Om.P.f19 : Om.P := (.i (.t .x1 .x0) (.t .x1 .x0))
noncomputable abbrev Om.P.f20 : Om.P := (.i (.L .x0 (.c .x0)) (.i (.L (.c .x0) (.a .x0 (.c .k0))) (.L (.c .x0) .x0)))
noncomputable abbrev Om.P.f21 : Om.P := (.i (.t .k0 .x1) (.i (.o (.a (.l .k1 .x1) (.e (.a .x0 .k1) .x1)) (.a (.t .x1 .k1) (.e .x0 .k0))) (.e .x1 (.a .x0 .k1))))
noncomputable abbrev Om.P.f22 : Om.P := (.i (.L .k0 .x0) (.L .k0 (.a .x0 (.k 2))))
noncomputable abbrev Om.P.f23 : Om.P := (.L (.a (.a .x0 (.k 2)) .k1) (.a .x0 (.k 4)))
noncomputable abbrev Om.P.f24 : Om.P := (.L (.a (.a .x0 (.k 3)) .k1) (.a .x0 (.k 4)))
noncomputable abbrev Om.P.f25 : Om.P := (.i (.L .x1 .x0) (.i (.a (.L (.k 28) .x0) (.L .x0 (.k 31))) (.L .x1 (.k 31))))
noncomputable abbrev Om.P.f26 : Om.P := (.i (.a (.l (.k 48) .x0) (.l .x0 (.k 57))) (.t .x0 (.k 256)))
noncomputable abbrev Om.P.f27 : Om.P := (.i (.l .x1 (.k 1000000)) (.i (.e .x0 .x1) (.l .x0 (.k 16777216))))
noncomputable abbrev Om.P.f28 : Om.P := (.e (.a .k1 .x0) (.a .x0 .k1))
noncomputable abbrev Om.P.f29 : Om.P := (.i (.L .k0 .x0) (.i (.T .x0 (.k 1000000000)) (.i (.o (.a (.L .k0 .x0) (.E (.c .x0) .x0)) (.a (.T .x0 .k0) (.e .x0 .k0))) (.t .x0 (.k 10000000000)))))
noncomputable abbrev Om.P.f30 : Om.P := (.i (.L .k0 .x0) (.i (.T .x0 (.k 60)) (.T .x0 (.k 1000000000))))
noncomputable abbrev Om.P.f31 : Om.P := (.i (.l .x1 (.k 10000)) (.i (.L .k0 .x0) (.i (.L .x0 (.c .x1)) (.i (.L (.c .x0) .x0) (.l .x0 (.k 1000000))))))
noncomputable abbrev Om.P.f32 : Om.P := (.i (.T .x0 (.c .x0)) (.i (.L (.c .x0) .x0) .f))
noncomputable abbrev Om.P.f33 : Om.P := (.i (.L (.g (.k 5999)) .x0) (.i (.L .x0 (.k 5999)) (.T .x0 (.k 1000000))))
noncomputable abbrev Om.P.f34 : Om.P := (.i (.L (.g (.k 5999)) .x0) (.i (.L .x0 (.k 5999)) (.T (.g (.k 1000000)) .x0)))
noncomputable abbrev Om.P.f35 : Om.P := (.i (.L .k0 .x0) (.i (.L .x0 (.k 23)) (.L .k0 .x0)))
noncomputable abbrev Om.P.f36 : Om.P := (.i (.L .k0 .x0) (.i (.L .x0 (.k 59)) (.L .k0 .x0)))
noncomputable abbrev Om.P.f37 : Om.P := (.i (.L .k0 .x0) (.i (.L .x0 (.k 60)) (.L .k0 .x0)))
noncomputable abbrev Om.P.f38 : Om.P := (.i (.L .x0 (.k 10000)) (.i (.L .k0 .x0) (.L (.a .x0 .k1) (.k 20000))))
noncomputable abbrev Om.P.f39 : Om.P := (.i (.l (.k 10) .x2) (.i (.e .x1 .x0) (.i (.o (.E .x1 (.a (.a .x0 (.k 3)) (.k 3))) (.E .x1 (.a (.a .x0 (.k 3)) (.k 5)))) (.i (.o (.a (.l .k1 .x2) (.e (.a .x0 .k1) .x2)) (.a (.t .x2 .k1) (.e .x0 .k0))) (.l (.k 3) .x1)))))
noncomputable abbrev Om.P.f40 : Om.P := (.i (.L .x1 .x0) (.L (.a .x1 .k1) (.a .x0 .k1)))
noncomputable abbrev Om.P.f41 : Om.P := (.i (.L .x0 (.k 900)) (.L .x0 (.k 1000)))
noncomputable abbrev Om.P.f42 : Om.P := (.i (.L .k0 .x0) (.i (.T .x0 (.k 100)) (.T .x0 (.k 1000000000))))
noncomputable abbrev Om.P.f43 : Om.P := (.L (.a .x0 .k1) (.a .x0 (.k 2)))
noncomputable abbrev Om.P.f44 : Om.P := (.i (.L .x0 (.k 900)) (.L (.a .x0 .k1) (.k 1000)))
noncomputable abbrev Om.P.f45 : Om.P := (.i (.E .x3 .x2) (.i (.a (.L (.m 60 .x0) .x1) (.T .x1 (.a (.m 60 .x0) (.k 60)))) (.i (.E (.a (.m 60 .x0) .x2) .x1) (.L .k0 .x3))))
noncomputable abbrev Om.P.f46 : Om.P := (.i (.E .x3 .x2) (.i (.a (.L (.m 60 .x0) .x1) (.T .x1 (.a (.m 60 .x0) (.k 60)))) (.i (.E (.a (.m 60 .x0) .x2) .x1) (.T .x3 (.k 1000000000)))))
noncomputable abbrev Om.P.f47 : Om.P := (.i (.L .k1 .x0) (.i (.L .x0 (.k 31)) (.T .x0 (.k 1000000000))))
noncomputable abbrev Om.P.f48 : Om.P := (.i (.L .k1 .x0) (.i (.L .x0 (.k 9999)) (.i (.L (.k 1900) .x0) (.i (.L .x0 (.k 2899)) (.L .k0 (.s .x0 (.k 1900)))))))
noncomputable abbrev Om.P.f49 : Om.P := (.E (.a (.c .x0) (.c .k0)) (.c .x0))
noncomputable abbrev Om.P.f50 : Om.P := (.i (.l .k1 .x3) (.i (.t (.a .x2 .x3) .x1) (.i (.o (.a (.l .k1 .x3) (.e (.a .x0 .k1) .x3)) (.a (.t .x3 .k1) (.e .x0 .k0))) (.t (.a (.a .x2 .k1) .x0) .x1))))
noncomputable abbrev Om.P.f51 : Om.P := (.i (.l .k1 .x3) (.i (.t (.a .x2 (.m 8 .x3)) .x1) (.i (.o (.a (.l .k1 .x3) (.e (.a .x0 .k1) .x3)) (.a (.t .x3 .k1) (.e .x0 .k0))) (.t (.a (.a .x2 (.k 3)) (.m 8 .x0)) .x1))))
noncomputable abbrev Om.P.f52 : Om.P := (.i (.e (.a .x2 (.a .x1 .k1)) .x0) (.e (.a (.a .x2 .k1) .x1) .x0))
noncomputable abbrev Om.P.f53 : Om.P := (.i (.l (.a .x1 .x0) (.k 1000000)) (.l (.a .x1 .x0) (.k 16777216)))
noncomputable abbrev Om.P.f54 : Om.P := (.i (.t .x3 .x2) (.i (.o (.a (.l .x3 .x2) (.e (.a .x1 .x3) .x2)) (.a (.t .x2 .x3) (.e .x1 .k0))) (.i (.o (.a (.l .k1 .x1) (.e (.a .x0 .k1) .x1)) (.a (.t .x1 .k1) (.e .x0 .k0))) (.e .x1 (.a .x0 .k1)))))
noncomputable abbrev Om.P.f55 : Om.P := (.i (.L .k0 .x0) (.i (.T .x0 (.k 1000000)) (.T .x0 (.k 9223372036854775808))))
noncomputable abbrev Om.P.f56 : Om.P := (.i (.l .x1 (.k 1000000)) (.i (.e .x0 .x1) (.T (.c .x0) (.k 9223372036854775808))))
noncomputable abbrev Om.P.f57 : Om.P := (.i (.L (.g (.k 1000000000)) .x0) (.i (.L .x0 (.k 1000000000)) (.i (.o (.a (.L .k0 .x0) (.E (.c .x0) .x0)) (.a (.T .x0 .k0) (.E (.c .x0) (.g .x0)))) (.t .x0 (.k 9223372036854775808)))))
noncomputable abbrev Om.P.f58 : Om.P := (.i (.L .k0 .x0) (.i (.L (.c .x1) .x0) (.i (.o (.a (.L .k0 .x0) (.E (.c .x0) .x0)) (.a (.T .x0 .k0) (.e .x0 .k0))) (.l .x1 .x0))))
noncomputable abbrev Om.P.f59 : Om.P := (.i (.L .k0 .x0) (.i (.L .x0 (.k 100)) (.i (.l .x0 (.k 11)) (.L .x0 (.a (.k 100) (.c .x0))))))
noncomputable abbrev Om.P.f60 : Om.P := (.i (.n (.e .x0 (.k 5))) (.i (.E (.c .x0) (.k 5)) .f))
noncomputable abbrev Om.P.f61 : Om.P := (.i (.L .k0 .x0) (.L (.c .x0) (.a (.a .x0 .k1) (.c (.a .x0 .k1)))))
noncomputable abbrev Om.P.f62 : Om.P := (.i (.L (.c .x2) (.a .x0 (.c .x1))) (.i (.T .x0 (.c .x2)) (.i (.o (.a (.l .k1 .x1) (.e (.a .x0 .k1) .x1)) (.a (.t .x1 .k1) (.e .x0 .k0))) (.e .x1 (.a .x0 .k1)))))
noncomputable abbrev Om.P.f63 : Om.P := (.i (.L .x1 (.c .x0)) (.i (.L (.a .x1 .k1) .x0) (.i (.L .x0 (.a .x1 (.k 2))) (.i (.L .x0 (.c .x0)) (.i (.L (.c .x0) (.a .x1 (.c .k0))) (.L (.c .x0) .x1))))))
noncomputable abbrev Om.P.f64 : Om.P := (.i (.l .x0 (.k 10000)) (.i (.L .k0 .x1) (.i (.L .x1 (.c .x0)) (.i (.L (.a .x1 .k1) .x0) (.i (.L .x0 (.a .x1 (.k 2))) (.L .k0 .x0))))))
noncomputable abbrev Om.P.f65 : Om.P := (.i (.L (.a .x1 .k1) .x0) (.i (.L .x0 (.a .x1 (.k 2))) (.i (.L (.c .x1) (.a .x1 (.c (.a .x0 .k1)))) (.L (.c .x1) (.a .x0 (.c .x0))))))
noncomputable abbrev Om.P.f66 : Om.P := (.i (.L (.c .x1) .x1) (.i (.l .x0 .k1) (.i (.L (.a .x1 .k1) .x0) (.i (.L .x0 (.a .x1 (.k 2))) (.L (.c (.a .x1 .x0)) .x0)))))
noncomputable abbrev Om.P.f67 : Om.P := (.i (.L (.c .x0) .x1) (.i (.L (.a .x1 .k1) .x0) (.i (.L .x0 (.a .x1 (.k 2))) (.L (.a (.c .x0) .k1) .x0))))
noncomputable abbrev Om.P.f68 : Om.P := (.i (.L .k0 .x0) (.i (.o (.a (.L .k0 (.a .x0 (.k 2))) (.E (.c .x1) (.a .x0 (.k 2)))) (.a (.T (.a .x0 (.k 2)) .k0) (.e .x1 .k0))) (.i (.o (.a (.L .k0 .x0) (.E (.c .x0) .x0)) (.a (.T .x0 .k0) (.e .x0 .k0))) (.i (.o (.a (.l .x0 .x1) (.e (.a .x2 .x0) .x1)) (.a (.t .x1 .x0) (.e .x2 .k0))) (.e .x2 (.k 2))))))
noncomputable abbrev Om.P.f69 : Om.P := (.E (.a (.a .x0 .k1) (.c .x0)) (.a .x0 (.c (.a .k1 .x0))))
noncomputable abbrev Om.P.f70 : Om.P := (.i (.L .k0 .x0) (.i (.L .x0 (.c .x2)) (.i (.o (.a (.L .k0 .x0) (.E (.c .x0) .x0)) (.a (.T .x0 .k0) (.e .x0 .k0))) (.i (.o (.a (.l .x0 .x2) (.e (.a .x1 .x0) .x2)) (.a (.t .x2 .x0) (.e .x1 .k0))) (.E (.s (.c .x2) .x0) (.c .x1))))))
noncomputable abbrev Om.P.f71 : Om.P := (.i (.l .x1 (.a .x0 .k1)) (.l (.a .k1 .x1) (.a (.a .x0 .k1) .k1)))
noncomputable abbrev Om.P.f72 : Om.P := (.i (.L .k0 .x0) (.i (.L .x0 (.k 23)) (.T .x0 (.k 1000000))))
noncomputable abbrev Om.P.f73 : Om.P := (.i (.L .k0 .x0) (.i (.L .x0 (.k 59)) (.T .x0 (.k 1000000))))
noncomputable abbrev Om.P.f74 : Om.P := (.i (.L .k0 .x0) (.i (.L .x0 (.k 60)) (.T .x0 (.k 1000000))))
noncomputable abbrev Om.P.f75 : Om.P := (.i (.a (.L .k0 .x0) (.T .x0 (.k 7))) (.i (.o (.a (.L .k0 .x0) (.E (.c .x0) .x0)) (.a (.T .x0 .k0) (.e .x0 .k0))) (.t .x0 (.k 7))))
noncomputable abbrev Om.P.f76 : Om.P := (.i (.L .k1 .x1) (.i (.L .x1 .x0) (.i (.L .x0 (.k 31)) (.i (.o (.a (.L .k0 .x1) (.E (.c .x0) .x1)) (.a (.T .x1 .k0) (.e .x0 .k0))) (.t .x0 (.k 10000000000))))))
noncomputable abbrev Om.P.f77 : Om.P := (.i (.l .x3 (.k 111)) (.i (.l .x2 (.k 111)) (.i (.l .x1 (.k 111)) (.i (.e .x0 .k1) (.l (.a (.a .x3 .x0) (.a (.a .x2 .x0) .x1)) (.k 400))))))
noncomputable abbrev Om.P.f78 : Om.P := (.i (.L .k0 .x0) (.i (.T .x0 (.k 7)) (.i (.o (.a (.L .k0 .x0) (.E (.c .x0) .x0)) (.a (.T .x0 .k0) (.e .x0 .k0))) (.t .x0 (.k 7)))))
noncomputable abbrev Om.P.f79 : Om.P := (.i (.t .x0 (.k 128)) (.a (.L .k0 (.c .x0)) (.T (.c .x0) (.k 256))))
noncomputable abbrev Om.P.f80 : Om.P := (.i (.L .x0 (.k 10000)) (.i (.L .k0 .x0) (.L (.a .x0 (.k 3)) (.k 20000))))
noncomputable abbrev Om.P.f81 : Om.P := (.i (.L .k0 .x0) (.i (.L .x0 (.k 2)) (.L (.a .x0 (.k 3)) (.k 10000))))
noncomputable abbrev Om.P.f82 : Om.P := (.i (.l (.k 10) .x2) (.i (.e .x1 .x0) (.i (.o (.E .x1 (.a (.a .x0 (.k 3)) (.k 3))) (.E .x1 (.a (.a .x0 (.k 3)) (.k 5)))) (.i (.o (.a (.l .k1 .x2) (.e (.a .x0 .k1) .x2)) (.a (.t .x2 .k1) (.e .x0 .k0))) (.l (.k 6) .x1)))))
noncomputable abbrev Om.P.f83 : Om.P := (.i (.L .x0 (.k 900)) (.L (.a .x0 (.k 2)) (.k 1000)))
noncomputable abbrev Om.P.f84 : Om.P := (.i (.L .k0 .x4) (.i (.L .x4 (.k 5999)) (.i (.E .x3 .x2) (.i (.E .x1 .x0) (.i (.a (.L (.m 60 .x2) .x4) (.T .x4 (.a (.m 60 .x2) (.k 60)))) (.i (.E (.a (.m 60 .x2) .x0) .x4) (.L .k0 .x3)))))))
noncomputable abbrev Om.P.f85 : Om.P := (.i (.L .k0 .x4) (.i (.L .x4 (.k 5999)) (.i (.E .x3 .x2) (.i (.E .x1 .x0) (.i (.a (.L (.m 60 .x2) .x4) (.T .x4 (.a (.m 60 .x2) (.k 60)))) (.i (.E (.a (.m 60 .x2) .x0) .x4) (.T .x3 (.k 1000000000))))))))
noncomputable abbrev Om.P.f86 : Om.P := (.i (.l .x1 (.k 111)) (.i (.e .x0 .k1) (.l (.a .x0 .x1) (.k 1000000))))
noncomputable abbrev Om.P.f87 : Om.P := (.i (.l .x2 (.k 111)) (.i (.l .x1 (.k 111)) (.i (.e .x0 .k1) (.i (.l (.a .x0 .x2) (.k 1000000)) (.l (.a (.a .x0 .x2) .x1) (.k 1000000))))))
noncomputable abbrev Om.P.f88 : Om.P := (.i (.t .x0 (.k 3)) (.o (.e .x0 .k0) (.o (.e .x0 .k1) (.e .x0 (.k 2)))))
noncomputable abbrev Om.P.f89 : Om.P := (.i (.l .x0 (.k 10000)) (.i (.L .x0 (.c .x0)) (.L .x0 (.k 20000))))
noncomputable abbrev Om.P.f90 : Om.P := (.i (.L .k0 .x1) (.i (.E .x0 (.a .x1 (.k 3))) (.L .k0 (.a .x0 (.k 3)))))
noncomputable abbrev Om.P.f91 : Om.P := (.i (.L .k0 .x1) (.i (.E .x0 (.a .x1 (.k 3))) (.L .k0 (.a .x0 (.k 5)))))
noncomputable abbrev Om.P.f92 : Om.P := (.i (.l .x2 (.k 111)) (.i (.l .x1 (.k 111)) (.i (.l .x0 (.k 111)) (.l (.a .x2 (.a .x1 .x0)) (.k 1000000)))))
noncomputable abbrev Om.P.f93 : Om.P := (.i (.L .k1 .x0) (.i (.L .x0 (.k 9999)) (.i (.L (.k 1900) .x0) (.i (.L .x0 (.k 2899)) (.T (.s .x0 (.k 1900)) (.k 1000000000))))))
noncomputable abbrev Om.P.f94 : Om.P := (.i (.l .x2 (.k 2)) (.i (.l .x1 (.k 4000)) (.i (.l .x0 (.k 4000)) (.l (.a (.a .x1 .x2) .x0) (.k 1000000)))))
noncomputable abbrev Om.P.f95 : Om.P := (.T (.c .x2) (.a (.c .x2) (.a (.a (.c .x1) (.c .x0)) .k1)))
noncomputable abbrev Om.P.f96 : Om.P := (.i (.L .k1 .x0) (.i (.L .x0 (.k 31)) (.T .x0 (.k 100))))
noncomputable abbrev Om.P.f97 : Om.P := (.i (.L .k1 .x0) (.i (.L .x0 (.k 12)) (.i (.e .x2 (.a .x1 .k1)) (.i (.e .x0 (.a .x1 .k1)) (.i (.o (.a (.L .k0 (.s .x0 .k1)) (.E (.c .x1) (.s .x0 .k1))) (.a (.T (.s .x0 .k1) .k0) (.e .x1 .k0))) (.E (.c (.a .x1 .k1)) .x0))))))
section
variable {α : Type} {P : List α -> Prop}
theorem of0 (h : P []) : ∀ vs, List.length vs = 0 -> P vs
  | [], _ => h
theorem ofs {n : Nat} (h : ∀ a vs, List.length vs = n -> P (a :: vs)) : ∀ vs, List.length vs = n + 1 -> P vs
  | a :: vs, e => h a vs (Nat.succ.inj e)
theorem of1 (h : ∀ a, P [a]) : ∀ vs, List.length vs = 1 -> P vs := ofs fun a => of0 (P := fun l => P (a :: l)) (h a)
theorem of2 (h : ∀ a b, P [a, b]) : ∀ vs, List.length vs = 2 -> P vs := ofs fun a => of1 (P := fun l => P (a :: l)) (h a)
theorem of3 (h : ∀ a b c, P [a, b, c]) : ∀ vs, List.length vs = 3 -> P vs := ofs fun a => of2 (P := fun l => P (a :: l)) (h a)
theorem of4 (h : ∀ a b c d, P [a, b, c, d]) : ∀ vs, List.length vs = 4 -> P vs := ofs fun a => of3 (P := fun l => P (a :: l)) (h a)
theorem of8 (h : ∀ a b c d e f g i, P [a, b, c, d, e, f, g, i]) : ∀ vs, List.length vs = 8 -> P vs :=
  ofs fun a => ofs (P := fun l => P (a :: l)) fun b => ofs (P := fun l => P (a :: b :: l)) fun c => ofs (P := fun l => P (a :: b :: c :: l)) fun d => of4 (P := fun l => P (a :: b :: c :: d :: l)) (h a b c d)
end
inductive V where
 | none
 | bool (b : Bool)
 | int (i : Int)
 | str (s : List Nat)
 | bytes (b : List UInt8)
 | tup (l : List V)
 | lst (l : List V)
 | dict (l : List (List Nat × V))
 | rng (a b : Int)
 | obj (c : Str) (fs : List (Str × V))
 | loc (i : Nat)
 | glob (x : Str)
 | meth (c m : Str)
 | exn (a : Int)
 | val (v : Value)
inductive MO where
 | list (l : List V)
 | inst (c : Str) (fs : List (Str × V))
structure Wd where
 Z : List (Addr × Obj)
 α : List Addr
structure Wd.le (W W' : Wd) : Prop where
 z : ∀ p ∈ W.Z, p ∈ W'.Z
 a : ∀ (i : Nat) (a : Addr), W.α[i]? = some a -> W'.α[i]? = some a
theorem Wd.le.rfl {W : Wd} : W.le W := ⟨fun _ h => h, fun _ _ h => h⟩
theorem Wd.le.trans {W W' W'' : Wd} (x : W.le W') (y : W'.le W'') : W.le W'' := ⟨fun p h => y.z p (x.z p h), fun i a h => y.a i a (x.a i a h)⟩
noncomputable def Kn (K : Frag) (W : Wd) (a : Addr) (o : Obj) : Prop := K.lookup a = some o \/ (a, o) ∈ W.Z
theorem Kn.mono {K : Frag} {W W' : Wd} {a : Addr} {o : Obj} (x : Kn K W a o) (l : W.le W') : Kn K W' a o := x.imp id (l.z _)
noncomputable abbrev aA (cls : String) (d : Option Addr) (vs : List Value) (n : Nat) (sl : Array (Option Value)) : Obj := ⟨.type cls, d, .seq vs.toArray n, sl⟩
noncomputable abbrev rngObj (a b : Int) (t u v : Tok) : Obj := { cls := .type "range", data := .fields #[.int a t, .int b u, .int 1 v] }
mutual
inductive RV (P : Params) (K : Frag) (W : Wd) : Value -> V -> Prop
 | none : RV P K W .none .none
 | bool (b : Bool) : RV P K W (.bool b) (.bool b)
 | int (i : Int) (t : Tok) : RV P K W (.int i t) (.int i)
 | str (x : Str) (t : Tok) : RV P K W (.str x t) (.str x.cps.toList)
 | bytes (b : Array UInt8) (t : Tok) : RV P K W (.bytes b t) (.bytes b.toList)
 | tup {a : Addr} {vs : List Value} {n : Nat} {sl : Array (Option Value)} {ds : List V} (h : Kn K W a (aA "tuple" .none vs n sl)) (hs : RVs P K W vs ds) : RV P K W (.ref a) (.tup ds)
 | lst {a : Addr} {vs : List Value} {n : Nat} {sl : Array (Option Value)} {ds : List V} (h : Kn K W a (aA "list" .none vs n sl)) (hs : RVs P K W vs ds) : RV P K W (.ref a) (.lst ds)
 | dict {a : Addr} {es : List DictEntry} {n : Nat} {kvs : List (List Nat × V)} (h : Kn K W a (dictOf es n)) (hs : RKs P K W es kvs) (hn : (kvs.map (·.1)).Nodup) (lo : (a == sysModules) = false) : RV P K W (.ref a) (.dict kvs)
 | rng {r : Addr} {a b : Int} {t u v : Tok} (h : Kn K W r (rngObj a b t u v)) : RV P K W (.ref r) (.rng a b)
 | obj {x dx C : Addr} {c : Str} {es : List DictEntry} {n : Nat} {fs : List (Str × V)} (hc : nsIn K mainGlobals c = some (some (.ref C))) (h : Kn K W x (instObj C dx)) (h' : Kn K W dx (dictOf es n)) (hs : RFs P K W es fs) : RV P K W (.ref x) (.obj c fs)
 | loc {i : Nat} {a : Addr} (h : W.α[i]? = some a) : RV P K W (.ref a) (.loc i)
 | glob {x : Str} {v : Value} (h : nsIn K mainGlobals x = some (some v)) (hk : keepIn K v = true) : RV P K W v (.glob x)
 | meth {c m : Str} {C : Addr} {v : Value} (h : nsIn K mainGlobals c = some (some (.ref C))) (hf : findIn K (.ref C) m = some (some v)) (hk : keepIn K v = true) : RV P K W v (.meth c m)
 | exn {ea dx C : Addr} {oe : Obj} {es : List DictEntry} {n : Nat} {t : Tok} {a : Int} {vs : Array Value} (hc : nsIn K mainGlobals "WordFault" = some (some (.ref C))) (h : Kn K W ea oe) (h1 : oe.cls = .ref C) (h2 : oe.dict = some dx) (h3 : oe.data = .fields vs) (h' : Kn K W dx (dictOf es n)) (ha : getL "at" es = some (some (.int a t))) : RV P K W (.ref ea) (.exn a)
 | val (v : Value) : RV P K W v (.val v)
inductive RVs (P : Params) (K : Frag) (W : Wd) : List Value -> List V -> Prop
 | nil : RVs P K W [] []
 | cons {v : Value} {d : V} {vs : List Value} {ds : List V} (h : RV P K W v d) (hs : RVs P K W vs ds) : RVs P K W (v :: vs) (d :: ds)
inductive RKs (P : Params) (K : Frag) (W : Wd) : List DictEntry -> List (List Nat × V) -> Prop
 | nil : RKs P K W [] []
 | cons {x : Str} {t : Tok} {v : Value} {d : V} {es : List DictEntry} {kvs : List (List Nat × V)} (h : RV P K W v d) (hs : RKs P K W es kvs) : RKs P K W (⟨PyData.keyHash P x, .str x t, v⟩ :: es) ((x.cps.toList, d) :: kvs)
inductive RFs (P : Params) (K : Frag) (W : Wd) : List DictEntry -> List (Str × V) -> Prop
 | nil : RFs P K W [] []
 | cons {x : Str} {t : Tok} {hsh : Int} {v : Value} {d : V} {es : List DictEntry} {fs : List (Str × V)} (h : RV P K W v d) (hs : RFs P K W es fs) : RFs P K W (⟨hsh, .str x t, v⟩ :: es) ((x, d) :: fs)
end
section
variable (P : Params) (K : Frag) (W : Wd)
inductive RvN : Value -> Prop
 | none : RvN .none
inductive RvB (b : Bool) : Value -> Prop
 | bool : RvB b (.bool b)
inductive RvI (i : Int) : Value -> Prop
 | int (t : Tok) : RvI i (.int i t)
inductive RvS : Value -> List Nat -> Prop
 | str (x : Str) (t : Tok) : RvS (.str x t) x.cps.toList
inductive RvY : Value -> List UInt8 -> Prop
 | bytes (b : Array UInt8) (t : Tok) : RvY (.bytes b t) b.toList
inductive RvT (ds : List V) : Value -> Prop
 | tup {a : Addr} {vs : List Value} {n : Nat} {sl : Array (Option Value)} (h : Kn K W a (aA "tuple" .none vs n sl)) (hs : RVs P K W vs ds) : RvT ds (.ref a)
inductive RvL (ds : List V) : Value -> Prop
 | lst {a : Addr} {vs : List Value} {n : Nat} {sl : Array (Option Value)} (h : Kn K W a (aA "list" .none vs n sl)) (hs : RVs P K W vs ds) : RvL ds (.ref a)
inductive RvD (kvs : List (List Nat × V)) : Value -> Prop
 | dict {a : Addr} {es : List DictEntry} {n : Nat} (h : Kn K W a (dictOf es n)) (hs : RKs P K W es kvs) (hn : (kvs.map (·.1)).Nodup) (lo : (a == sysModules) = false) : RvD kvs (.ref a)
inductive RvR (a b : Int) : Value -> Prop
 | rng {r : Addr} {t u v : Tok} (h : Kn K W r (rngObj a b t u v)) : RvR a b (.ref r)
inductive RvO (c : Str) (fs : List (Str × V)) : Value -> Prop
 | obj {x dx C : Addr} {es : List DictEntry} {n : Nat} (hc : nsIn K mainGlobals c = some (some (.ref C))) (h : Kn K W x (instObj C dx)) (h' : Kn K W dx (dictOf es n)) (hs : RFs P K W es fs) : RvO c fs (.ref x)
inductive RvA (i : Nat) : Value -> Prop
 | loc {a : Addr} (h : W.α[i]? = some a) : RvA i (.ref a)
inductive RvG (x : Str) (v : Value) : Prop
 | glob (h : nsIn K mainGlobals x = some (some v)) (hk : keepIn K v = true) : RvG x v
inductive RvM (c m : Str) (v : Value) : Prop
 | meth {C : Addr} (h : nsIn K mainGlobals c = some (some (.ref C))) (hf : findIn K (.ref C) m = some (some v)) (hk : keepIn K v = true) : RvM c m v
inductive RvE (a : Int) : Value -> Prop
 | exn {ea dx C : Addr} {oe : Obj} {es : List DictEntry} {n : Nat} {t : Tok} {vs : Array Value} (hc : nsIn K mainGlobals "WordFault" = some (some (.ref C))) (h : Kn K W ea oe) (h1 : oe.cls = .ref C) (h2 : oe.dict = some dx) (h3 : oe.data = .fields vs) (h' : Kn K W dx (dictOf es n)) (ha : getL "at" es = some (some (.int a t))) : RvE a (.ref ea)
inductive RvV (u : Value) : Value -> Prop
 | val : RvV u u
noncomputable def Inv (v : Value) : V -> Prop
 | .none => RvN v
 | .bool b => RvB b v
 | .int i => RvI i v
 | .str s => RvS v s
 | .bytes b => RvY v b
 | .tup l => RvT P K W l v
 | .lst l => RvL P K W l v
 | .dict l => RvD P K W l v
 | .rng a b => RvR K W a b v
 | .obj c fs => RvO P K W c fs v
 | .loc i => RvA W i v
 | .glob x => RvG K x v
 | .meth c m => RvM K c m v
 | .exn a => RvE K W a v
 | .val u => RvV u v
end
theorem RV.inv {P : Params} {K : Frag} {W : Wd} {v : Value} {d : V} (x : RV P K W v d) : Inv P K W v d := by
 cases x with
 | none => exact .none
 | bool b => exact .bool
 | int i t => exact .int t
 | str x t => exact .str x t
 | bytes b t => exact .bytes b t
 | tup h hs => exact .tup h hs
 | lst h hs => exact .lst h hs
 | dict h hs hn lo => exact .dict h hs hn lo
 | rng h => exact .rng h
 | obj hc h h' hs => exact .obj hc h h' hs
 | loc h => exact .loc h
 | glob h hk => exact .glob h hk
 | meth h hf hk => exact .meth h hf hk
 | exn hc h h1 h2 h3 h' ha => exact .exn hc h h1 h2 h3 h' ha
 | val v => exact .val
mutual
noncomputable def V.closed (n : Nat) : V -> Bool
 | .loc i => decide (i < n)
 | .tup l => V.closeds n l
 | .lst l => V.closeds n l
 | .dict l => V.closedk n l
 | .obj _ fs => V.closedf n fs
 | _ => true
noncomputable def V.closeds (n : Nat) : List V -> Bool
 | [] => true
 | d :: r => d.closed n && V.closeds n r
noncomputable def V.closedk (n : Nat) : List (List Nat × V) -> Bool
 | [] => true
 | (_, d) :: r => d.closed n && V.closedk n r
noncomputable def V.closedf (n : Nat) : List (Str × V) -> Bool
 | [] => true
 | (_, d) :: r => d.closed n && V.closedf n r
end
section
variable {P : Params} {K : Frag} {W W' : Wd}
theorem RV.mono (l : W.le W') {v : Value} {d : V} (x : RV P K W v d) : RV P K W' v d := RV.rec (P := P) (K := K) (W := W) (motive_1 := fun v d _ => RV P K W' v d) (motive_2 := fun v d _ => RVs P K W' v d) (motive_3 := fun v d _ => RKs P K W' v d) (motive_4 := fun v d _ => RFs P K W' v d) .none .bool .int .str .bytes (fun h _ i => .tup (h.mono l) i) (fun h _ i => .lst (h.mono l) i) (fun h _ hn lo i => .dict (h.mono l) i hn lo) (fun h => .rng (h.mono l)) (fun hc h h' _ i => .obj hc (h.mono l) (h'.mono l) i) (fun h => .loc (l.a _ _ h)) .glob .meth (fun hc h h1 h2 h3 h' ha => .exn hc (h.mono l) h1 h2 h3 (h'.mono l) ha) .val .nil (fun _ _ i j => .cons i j) .nil (fun _ _ i j => .cons i j) .nil (fun _ _ i j => .cons i j) x
theorem RVs.mono (l : W.le W') {v : List Value} {d : List V} (x : RVs P K W v d) : RVs P K W' v d := by
 induction d generalizing v with
 | nil => cases x; exact .nil
 | cons _ _ ih => cases x with
  | cons h hs => exact .cons (h.mono l) (ih hs)
theorem RFs.mono (l : W.le W') {v : List DictEntry} {d : List (Str × V)} (x : RFs P K W v d) : RFs P K W' v d := by
 induction d generalizing v with
 | nil => cases x; exact .nil
 | cons _ _ ih => cases x with
  | cons h hs => exact .cons (h.mono l) (ih hs)
noncomputable def Wd.cut (W : Wd) (n : Nat) : Wd := ⟨W.Z, W.α.take n⟩
theorem cut_loc {n i : Nat} {a : Addr} (h : W.α[i]? = some a) (c : (V.loc i).closed n = true) : (W.cut n).α[i]? = some a := by
 have c : i < n := of_decide_eq_true c
 show (W.α.take n)[i]? = _
 rw [List.getElem?_take_of_lt c]; exact h
theorem RV.cut (n : Nat) {v : Value} {d : V} (x : RV P K W v d) : V.closed n d = true -> RV P K (W.cut n) v d := RV.rec (P := P) (K := K) (W := W) (motive_1 := fun v d _ => V.closed n d = true -> RV P K (W.cut n) v d) (motive_2 := fun v d _ => V.closeds n d = true -> RVs P K (W.cut n) v d) (motive_3 := fun v d _ => V.closedk n d = true -> RKs P K (W.cut n) v d) (motive_4 := fun v d _ => V.closedf n d = true -> RFs P K (W.cut n) v d) (fun _ => .none) (fun b _ => .bool b) (fun i t _ => .int i t) (fun x t _ => .str x t) (fun b t _ => .bytes b t) (fun h _ i c => .tup h (i c)) (fun h _ i c => .lst h (i c)) (fun h _ hn lo i c => .dict h (i c) hn lo) (fun h _ => .rng h) (fun hc h h' _ i c => .obj hc h h' (i c)) (fun h c => .loc (cut_loc h c)) (fun h hk _ => .glob h hk) (fun h hf hk _ => .meth h hf hk) (fun hc h h1 h2 h3 h' ha _ => .exn hc h h1 h2 h3 h' ha) (fun v _ => .val v) (fun _ => .nil) (fun _ _ i j c => .cons (i (Bool.and_eq_true_iff.mp c).1) (j (Bool.and_eq_true_iff.mp c).2)) (fun _ => .nil) (fun _ _ i j c => .cons (i (Bool.and_eq_true_iff.mp c).1) (j (Bool.and_eq_true_iff.mp c).2)) (fun _ => .nil) (fun _ _ i j c => .cons (i (Bool.and_eq_true_iff.mp c).1) (j (Bool.and_eq_true_iff.mp c).2)) x
theorem RVs.cut (n : Nat) {v : List Value} {d : List V} (x : RVs P K W v d) : V.closeds n d = true -> RVs P K (W.cut n) v d := by
 induction d generalizing v with
 | nil => cases x; exact fun _ => .nil
 | cons _ _ ih => cases x with
  | cons h hs => exact fun c => .cons (h.cut n (Bool.and_eq_true_iff.mp c).1) (ih hs (Bool.and_eq_true_iff.mp c).2)
theorem RFs.cut (n : Nat) {v : List DictEntry} {d : List (Str × V)} (x : RFs P K W v d) : V.closedf n d = true -> RFs P K (W.cut n) v d := by
 induction d generalizing v with
 | nil => cases x; exact fun _ => .nil
 | cons _ _ ih => cases x with
  | cons h hs => exact fun c => .cons (h.cut n (Bool.and_eq_true_iff.mp c).1) (ih hs (Bool.and_eq_true_iff.mp c).2)
inductive RvNil : List Value -> Prop
 | nil : RvNil []
inductive RvCons (P : Params) (K : Frag) (W : Wd) : List Value -> V -> List V -> Prop
 | cons {v : Value} {d : V} {vs : List Value} {ds : List V} (h : RV P K W v d) (hs : RVs P K W vs ds) : RvCons P K W (v :: vs) d ds
noncomputable def InvS (P : Params) (K : Frag) (W : Wd) (vs : List Value) : List V -> Prop
 | [] => RvNil vs
 | d :: ds => RvCons P K W vs d ds
theorem RVs.inv {vs : List Value} {ds : List V} (x : RVs P K W vs ds) : InvS P K W vs ds := by
 cases x with
 | nil => exact .nil
 | cons h hs => exact .cons h hs
theorem RVs.hd {v : Value} {vs : List Value} {d : V} {ds : List V} (x : RVs P K W (v :: vs) (d :: ds)) : RV P K W v d := by
 cases x with
 | cons h hs => exact h
theorem RVs.tl {v : Value} {vs : List Value} {d : V} {ds : List V} (x : RVs P K W (v :: vs) (d :: ds)) : RVs P K W vs ds := by
 cases x with
 | cons h hs => exact hs
theorem RVs.none_cons {d : V} {ds : List V} (x : RVs P K W [] (d :: ds)) : False := nomatch x
theorem RVs.cons_none {v : Value} {vs : List Value} (x : RVs P K W (v :: vs) []) : False := nomatch x
theorem RVs.length {vs : List Value} {ds : List V} (h : RVs P K W vs ds) : vs.length = ds.length := by
 induction ds generalizing vs with
 | nil => cases h.inv; rfl
 | cons d ds ih => cases h.inv with
  | cons _ hs => rw [List.length_cons, List.length_cons, ih hs]
theorem RVs.append {vs vs' : List Value} {ds ds' : List V} (h : RVs P K W vs ds) (y : RVs P K W vs' ds') : RVs P K W (vs ++ vs') (ds ++ ds') := by
 induction ds generalizing vs with
 | nil => cases h.inv; exact y
 | cons d ds ih => cases h.inv with
  | cons h hs => exact .cons h (ih hs)
theorem RVs.reverse {vs : List Value} {ds : List V} (h : RVs P K W vs ds) : RVs P K W vs.reverse ds.reverse := by
 induction ds generalizing vs with
 | nil => cases h.inv; exact .nil
 | cons d ds ih => cases h.inv with
  | cons h hs => rw [List.reverse_cons, List.reverse_cons]; exact (ih hs).append (.cons h .nil)
theorem RVs.get {vs : List Value} {ds : List V} (h : RVs P K W vs ds) {i : Nat} {d : V} (e : ds[i]? = some d) : ∃ v, vs[i]? = some v /\ RV P K W v d := by
 induction ds generalizing vs i with
 | nil => injection e
 | cons _ ds ih => cases h.inv with
  | cons h hs =>
   cases i with
   | zero => obtain rfl := Option.some.inj e; exact ⟨_, rfl, h⟩
   | succ i => exact ih hs (i := i) e
theorem RVs.get' {vs : List Value} {ds : List V} (h : RVs P K W vs ds) {i : Nat} {v : Value} (e : vs[i]? = some v) : ∃ d, ds[i]? = some d /\ RV P K W v d := by
 have hi : i < ds.length := h.length ▸ (List.getElem?_eq_some_iff.mp e).1
 obtain ⟨w, a, b⟩ := h.get (List.getElem?_eq_getElem hi)
 rw [e] at a; obtain rfl := Option.some.inj a
 exact ⟨_, List.getElem?_eq_getElem hi, b⟩
theorem RVs.take {vs : List Value} {ds : List V} (n : Nat) (h : RVs P K W vs ds) : RVs P K W (vs.take n) (ds.take n) := by
 induction n generalizing vs ds with
 | zero => exact .nil
 | succ n ih => cases h with
  | nil => exact .nil
  | cons h hs => exact .cons h (ih hs)
theorem RVs.set {vs : List Value} {ds : List V} (i : Nat) {v : Value} {d : V} (h : RVs P K W vs ds) (y : RV P K W v d) : RVs P K W (vs.set i v) (ds.set i d) := by
 induction i generalizing vs ds with
 | zero => cases h with
  | nil => exact .nil
  | cons h hs => exact .cons y hs
 | succ i ih => cases h with
  | nil => exact .nil
  | cons h hs => exact .cons h (ih hs)
end
inductive ROb (P : Params) (K : Frag) (W : Wd) : Addr -> MO -> List (Addr × Obj) -> Prop
 | list {a : Addr} {vs : List Value} {ds : List V} {n : Nat} (hs : RVs P K W vs ds) : ROb P K W a (.list ds) [(a, aA "list" .none vs n #[])]
 | inst {x dx C : Addr} {c : Str} {es : List DictEntry} {fs : List (Str × V)} {n : Nat} (hc : nsIn K mainGlobals c = some (some (.ref C))) (hs : RFs P K W es fs) : ROb P K W x (.inst c fs) [(x, instObj C dx), (dx, dictOf es n)]
theorem ROb.mono {P : Params} {K : Frag} {W W' : Wd} (l : W.le W') {a : Addr} {o : MO} {m : List (Addr × Obj)} (x : ROb P K W a o m) : ROb P K W' a o m := by
 cases x with
 | list hs => exact .list (hs.mono l)
 | inst hc hs => exact .inst hc (hs.mono l)
inductive Rend (P : Params) (K : Frag) (W : Wd) : List Addr -> List (Option MO) -> List (Addr × Obj) -> Prop
 | nil : Rend P K W [] [] []
 | dead {a : Addr} {as : List Addr} {H : List (Option MO)} {M : List (Addr × Obj)} (h : Rend P K W as H M) : Rend P K W (a :: as) (.none :: H) M
 | ob {a : Addr} {o : MO} {m : List (Addr × Obj)} {as : List Addr} {H : List (Option MO)} {M : List (Addr × Obj)} (x : ROb P K W a o m) (h : Rend P K W as H M) : Rend P K W (a :: as) (some o :: H) (m ++ M)
theorem Rend.mono {P : Params} {K : Frag} {W W' : Wd} (l : W.le W') {as : List Addr} {H : List (Option MO)} {M : List (Addr × Obj)} (h : Rend P K W as H M) : Rend P K W' as H M := by
 induction h with
 | nil => exact .nil
 | dead _ ih => exact .dead ih
 | ob x _ ih => exact .ob (x.mono l) ih
theorem Rend.len {P : Params} {K : Frag} {W : Wd} {as : List Addr} {H : List (Option MO)} {M : List (Addr × Obj)} (h : Rend P K W as H M) : as.length = H.length := by
 induction h with
 | nil => rfl
 | dead _ ih => exact congrArg Nat.succ ih
 | ob _ _ ih => exact congrArg Nat.succ ih
structure St where
 loc : List (Str × Option V)
 glb : List (Str × V)
 heap : List (Option MO)
inductive Has (x : Str) (d : V) : List (Str × Option V) -> Prop
 | h0 {l : List (Str × Option V)} : Has x d ((x, some d) :: l)
 | h1 {p : Str × Option V} {l : List (Str × Option V)} : Has x d (p :: (x, some d) :: l)
 | h2 {p q : Str × Option V} {l : List (Str × Option V)} : Has x d (p :: q :: (x, some d) :: l)
 | h3 {p q r : Str × Option V} {l : List (Str × Option V)} : Has x d (p :: q :: r :: (x, some d) :: l)
 | t4 {p q r s : Str × Option V} {l : List (Str × Option V)} (h : Has x d l) : Has x d (p :: q :: r :: s :: l)
inductive HasG (x : Str) (d : V) : List (Str × V) -> Prop
 | h0 {l : List (Str × V)} : HasG x d ((x, d) :: l)
 | h1 {p : Str × V} {l : List (Str × V)} : HasG x d (p :: (x, d) :: l)
 | h2 {p q : Str × V} {l : List (Str × V)} : HasG x d (p :: q :: (x, d) :: l)
 | h3 {p q r : Str × V} {l : List (Str × V)} : HasG x d (p :: q :: r :: (x, d) :: l)
 | t4 {p q r s : Str × V} {l : List (Str × V)} (h : HasG x d l) : HasG x d (p :: q :: r :: s :: l)
inductive PutO (x : Str) (d : V) : List (Str × Option V) -> List (Str × Option V) -> Prop
 | head {l : List (Str × Option V)} {o : Option V} : PutO x d ((x, o) :: l) ((x, some d) :: l)
 | tail {p : Str × Option V} {l l' : List (Str × Option V)} (h : PutO x d l l') : PutO x d (p :: l) (p :: l')
inductive Put (x : Str) (d : V) : List (Str × Option V) -> List (Str × Option V) -> Prop
 | h0 {l : List (Str × Option V)} {o : Option V} : Put x d ((x, o) :: l) ((x, some d) :: l)
 | h1 {p : Str × Option V} {l : List (Str × Option V)} {o : Option V} : Put x d (p :: (x, o) :: l) (p :: (x, some d) :: l)
 | h2 {p q : Str × Option V} {l : List (Str × Option V)} {o : Option V} : Put x d (p :: q :: (x, o) :: l) (p :: q :: (x, some d) :: l)
 | h3 {p q r : Str × Option V} {l : List (Str × Option V)} {o : Option V} : Put x d (p :: q :: r :: (x, o) :: l) (p :: q :: r :: (x, some d) :: l)
 | t4 {p q r s : Str × Option V} {l l' : List (Str × Option V)} (h : Put x d l l') : Put x d (p :: q :: r :: s :: l) (p :: q :: r :: s :: l')
theorem Has.mem {x : Str} {d : V} {l : List (Str × Option V)} (h : Has x d l) : (x, some d) ∈ l := by
 induction h with
 | h0 => exact .head _
 | h1 => exact .tail _ (.head _)
 | h2 => exact .tail _ (.tail _ (.head _))
 | h3 => exact .tail _ (.tail _ (.tail _ (.head _)))
 | t4 _ ih => exact .tail _ (.tail _ (.tail _ (.tail _ ih)))
theorem HasG.mem {x : Str} {d : V} {l : List (Str × V)} (h : HasG x d l) : (x, d) ∈ l := by
 induction h with
 | h0 => exact .head _
 | h1 => exact .tail _ (.head _)
 | h2 => exact .tail _ (.tail _ (.head _))
 | h3 => exact .tail _ (.tail _ (.tail _ (.head _)))
 | t4 _ ih => exact .tail _ (.tail _ (.tail _ (.tail _ ih)))
theorem Put.o {x : Str} {d : V} {l l' : List (Str × Option V)} (h : Put x d l l') : PutO x d l l' := by
 induction h with
 | h0 => exact .head
 | h1 => exact .tail .head
 | h2 => exact .tail (.tail .head)
 | h3 => exact .tail (.tail (.tail .head))
 | t4 _ ih => exact .tail (.tail (.tail (.tail ih)))
theorem Put.keys {x : Str} {d : V} {l l' : List (Str × Option V)} (h : Put x d l l') : l'.map (·.1) = l.map (·.1) := by
 replace h := h.o
 induction h with
 | head => rfl
 | tail _ ih => exact congrArg (List.cons _) ih
theorem PutO.key {x : Str} {d : V} {l l' : List (Str × Option V)} (h : PutO x d l l') : x ∈ l.map (·.1) := by
 induction h with
 | head => exact .head _
 | tail _ ih => exact .tail _ ih
theorem Put.key {x : Str} {d : V} {l l' : List (Str × Option V)} (h : Put x d l l') : x ∈ l.map (·.1) := h.o.key
theorem Put.of {x y : Str} {d e : V} {l l' : List (Str × Option V)} (p : Put x d l l') : (l.map (·.1)).Nodup -> (y, some e) ∈ l' -> (y = x /\ e = d) \/ (y ≠ x /\ (y, some e) ∈ l) := by
 replace p := p.o
 induction p with
 | @head r o =>
  intro hn hm
  rw [List.map_cons, List.nodup_cons] at hn
  rcases List.mem_cons.mp hm with q | hm'
  ·cases q; exact .inl ⟨rfl, rfl⟩
  ·refine .inr ⟨fun q => hn.1 ?_, .tail _ hm'⟩
   exact List.mem_map.mpr ⟨_, hm', q⟩
 | @tail p r r' h ih =>
  intro hn hm
  rw [List.map_cons, List.nodup_cons] at hn
  rcases List.mem_cons.mp hm with q | hm'
  ·refine .inr ⟨fun z => ?_, by rw [q]; exact .head _⟩
   subst q
   subst z
   exact hn.1 h.key
  ·rcases ih hn.2 hm' with r | ⟨r1, r2⟩
   ·exact .inl r
   ·exact .inr ⟨r1, .tail _ r2⟩
structure Gx where
 prog : Program
 w : World
 K : Frag
 p : Program
 loose : List Str
 mean : ExcName -> Option Value
 mg : Str -> Option Value
 mb : Str -> Option Value
 base : Heap
 gens : Array GenState
 drawn : Drawn
 os : OsState
noncomputable abbrev Gx.P (G : Gx) : Params := G.w.params
noncomputable abbrev Gx.M (G : Gx) : Model := model G.prog G.w
structure Gx.Ok (G : Gx) : Prop where
 kin : G.K.In G.base
 top : Top G.p G.loose G.mean G.mg G.mb G.base
inductive Md where
 | fr
 | cp (env : Env) (me mc : Str -> Option Value)
structure Fx where
 A₀ : Around
 A : Around
 outer : List Env
 h₀ : Heap
 L : Addr
 fa : Addr
 qual : Str
 scope : Scope
 cd : Value
 room : Nat
 md : Md
 pins : List (Addr × Obj)
noncomputable abbrev Fx.fenv (X : Fx) : Env := envOf X.qual X.scope X.L X.fa X.cd
noncomputable def Fx.env (X : Fx) : Env := match X.md with
 | .fr => X.fenv
 | .cp e _ _ => e
structure Fx.Ok (G : Gx) (X : Fx) : Prop where
 g : G.Ok
 below : Below X.A₀ G.base X.outer X.h₀
 kind : X.scope.kind = .function
 frames : X.A.frames = some (X.fenv :: X.outer)
 depth : X.A.depth + X.room < recursionLimit
 units : X.A.units + 8 * X.room < cLine
 ek : X.env.scope.kind = .function
 eg : X.env.globals = mainGlobals
 eb : X.env.builtins = builtinsNs
section
variable {G : Gx} {X : Fx}
theorem Fx.Ok.kin (o : X.Ok G) : G.K.In X.h₀ := o.g.kin.keeps o.below.stays
theorem Fx.Ok.top (o : X.Ok G) : Top G.p G.loose G.mean G.mg G.mb X.h₀ := o.g.top.keeps o.below.stays
theorem Fx.Ok.units' (o : X.Ok G) : X.A.units < cLine := by have := o.units; exact (Om.q 3 0 (.i (.t (.a .x2 (.m 8 .x1)) .x0) (.t .x2 .x0))) _ _ _ this
end
noncomputable def Gl (G : Gx) (x : Str) (d : V) : Prop :=
 ∃ v, (nsIn G.K mainGlobals x = some (some v) \/ (nsIn G.K mainGlobals x = some none /\ x ≠ ("__name__" : Str) /\ bootBuiltins x = some v) \/ G.mg x = some v) /\ ∀ W, RV G.P G.K W v d
structure Sta (G : Gx) (X : Fx) (σ : St) : Prop where
 nod : (σ.loc.map (·.1)).Nodup
 loc : ∀ x ∈ σ.loc.map (·.1), X.env.kindOf x = some .local /\ (x == ("__debug__" : Str)) = false
 glb : ∀ p ∈ σ.glb, X.env.kindOf p.1 = some .globalImplicit /\ (p.1 == ("__debug__" : Str)) = false /\ Gl G p.1 p.2
noncomputable def Lc (G : Gx) (X : Fx) (W : Wd) (m : Str -> Option Value) (loc : List (Str × Option V)) : Prop := match X.md with
 | .fr => ∀ x d, (x, some d) ∈ loc -> ∃ v, m x = some v /\ RV G.P G.K W v d
 | .cp _ me mc => m = me /\ ∀ x d, (x, some d) ∈ loc -> ∃ v, mc x = some v /\ RV G.P G.K W v d
theorem Lc.mono {G : Gx} {X : Fx} {W W' : Wd} {m : Str -> Option Value} {loc : List (Str × Option V)} (x : Lc G X W m loc) (l : W.le W') : Lc G X W' m loc := by
 unfold Lc at x ⊢
 split at x
 ·exact fun y d hm => let ⟨v, e, r⟩ := x y d hm; ⟨v, e, r.mono l⟩
 ·exact ⟨x.1, fun y d hm => let ⟨v, e, r⟩ := x.2 y d hm; ⟨v, e, r.mono l⟩⟩
structure RelAt (G : Gx) (X : Fx) (W : Wd) (σ : St) (h : Heap) (m : Str -> Option Value) (M : List (Addr × Obj)) : Prop where
 fr : Fr X.h₀ X.L h m
 nw : News X.h₀ X.L h (X.pins ++ (M ++ W.Z))
 nod : ((X.pins ++ (M ++ W.Z)).map (·.1)).Nodup
 lc : Lc G X W m σ.loc
 re : Rend G.P G.K W W.α σ.heap M
 st : Sta G X σ
 cp : match X.md with | .fr => True | .cp e _ mc => ∃ oC, (e.locals, oC) ∈ X.pins /\ LCg.NsObj oC mc
noncomputable def Rel (G : Gx) (X : Fx) (W : Wd) (σ : St) (h : Heap) : Prop := ∃ m M, RelAt G X W σ h m M
structure Sh (G : Gx) (s : Shared) : Prop where
 gens : s.gens = G.gens
 drawn : s.drawn = G.drawn
 os : s.os = G.os
structure RelS (G : Gx) (X : Fx) (W : Wd) (σ : St) (s : Shared) : Prop where
 rel : Rel G X W σ s.heap
 sh : Sh G s
section
variable {G : Gx} {X : Fx} {W W' : Wd} {σ : St} {s : Shared} {h h' : Heap}
theorem Rel.grow (r : Rel G X W σ h) (k : ∀ b o, h.get? b = some o -> h'.get? b = some o) : Rel G X W σ h' := by
 obtain ⟨m, M, x⟩ := r
 exact ⟨m, M, x.fr.keeps k, x.nw.grown k, x.nod, x.lc, x.re, x.st, x.cp⟩
theorem RelS.grow (r : RelS G X W σ s) {h' : Heap} {tk : Nat} (k : ∀ b o, s.heap.get? b = some o -> h'.get? b = some o) : RelS G X W σ { s with heap := h', toks := tk } :=
 ⟨r.rel.grow k, ⟨r.sh.gens, r.sh.drawn, r.sh.os⟩⟩
theorem RelS.tok (r : RelS G X W σ s) {tk : Nat} : RelS G X W σ { s with toks := tk } := ⟨r.rel, ⟨r.sh.gens, r.sh.drawn, r.sh.os⟩⟩
theorem RelS.sta (r : RelS G X W σ s) : Sta G X σ := by obtain ⟨m, M, x⟩ := r.rel; exact x.st
theorem RelS.kin (o : X.Ok G) (r : RelS G X W σ s) : G.K.In s.heap := by obtain ⟨m, M, x⟩ := r.rel; exact o.kin.keeps x.fr.keep
theorem RelS.known (o : X.Ok G) (r : RelS G X W σ s) {a : Addr} {ob : Obj} (k : Kn G.K W a ob) : s.heap.get? a = some ob := by
 rcases k with k | k
 ·exact r.kin o _ _ k
 ·obtain ⟨m, M, x⟩ := r.rel
  exact (x.nw _ (List.mem_append_right _ (List.mem_append_right _ k))).1
end
inductive ExnF (B : Heap) (ea : Addr) (S : Option Value -> Prop) (h : Heap) (vs : Array Value) : Prop
 | none (a : S none) (b : vs[1]? = some .none)
 | some (T : Addr) (oT : Obj) (ts : Array Value) (fl : Value) (q1 : vs[1]? = some (.ref T)) (q2 : B.get? T = Option.none) (q3 : T ≠ ea) (q4 : h.get? T = Option.some oT) (q5 : oT.data = .fields ts) (q6 : ts[3]? = Option.some fl) (q7 : S (Option.some fl))
inductive Exn (B : Heap) (l : List Env) (ea : Addr) (cl : Value) (dx : Addr) (S : Option Value -> Prop) (h : Heap) : Prop
 | mk (stays : B.StaysIn h) (new : B.get? ea = none) (frames : h.FunFrames B l) (oe : Obj) (vs : Array Value) (h1 : h.get? ea = some oe) (h2 : oe.cls = cl) (h3 : oe.dict = some dx) (h4 : oe.data = .fields vs) (h5 : 1 < vs.size) (h6 : ExnF B ea S h vs)
noncomputable def inL (L : Addr) (o : Option Value) : Prop := o = none \/ o = some .none \/ o = some (rawInt L)
noncomputable abbrev frs (X : Fx) : List Env := X.fenv :: X.outer
inductive RaisedI (G : Gx) (h₀ : Heap) (L : Addr) (fs : List Env) (e : Value) (at_ : Int) (loc : List (Str × Option V)) (h : Heap) : Prop
 | mk (ea : Addr) (g : Heap) (m : Str -> Option Value) (B : Heap) (C dx : Addr) (es : List DictEntry) (n : Nat) (t : Tok) (e1 : e = .ref ea) (F : Fr h₀ L g m) (hl : ∀ x d, (x, some d) ∈ loc -> match d with
   | .none => m x = some .none
   | .bool b => m x = some (.bool b)
   | .int i => ∃ t, m x = some (.int i t)
   | .bytes b => ∃ t, m x = some (.bytes b.toArray t)
   | _ => True)
  (u : g.UpToSlots h) (hs : G.base.StaysIn B) (hb : ∀ b o, g.get? b = some o -> b ∉ fs.filterMap (·.frame) -> B.get? b = some o)
  (hC : nsIn G.K mainGlobals "WordFault" = some (some (.ref C))) (hdx : B.get? dx = some (dictOf es n)) (ha : getL "at" es = some (some (.int at_ t))) (hd : dx ≠ L /\ h₀.get? dx = none) (Ex : Exn B fs ea (.ref C) dx (inL L) h)
noncomputable abbrev Raised (G : Gx) (X : Fx) (e : Value) (at_ : Int) (loc : List (Str × Option V)) (h : Heap) : Prop := RaisedI G X.h₀ X.L (frs X) e at_ loc h
noncomputable abbrev Ps := Int -> List (Str × Option V) -> Prop
inductive EE (G : Gx) (X : Fx) (Ψ : Ps) (e : Value) (s' : Shared) : Prop
 | mk (at_ : Int) (loc : List (Str × Option V)) (p : Ψ at_ loc) (h : Raised G X e at_ loc s'.heap) (sh : Sh G s')
inductive Fl where
 | next | brk | cont
 | ret (v : V)
inductive PV (G : Gx) (X : Fx) (W : Wd) (Φ : V -> St -> Prop) (v : Value) (s' : Shared) : Prop
 | mk (W' : Wd) (d : V) (σ' : St) (l : W.le W') (r : RV G.P G.K W' v d) (R : RelS G X W' σ' s') (h : Φ d σ')
inductive PVs (G : Gx) (X : Fx) (W : Wd) (Φ : List V -> St -> Prop) (v : List Value) (s' : Shared) : Prop
 | mk (W' : Wd) (d : List V) (σ' : St) (l : W.le W') (r : RVs G.P G.K W' v d) (R : RelS G X W' σ' s') (h : Φ d σ')
inductive PB (G : Gx) (X : Fx) (W : Wd) (Φ : Bool -> St -> Prop) (b : Bool) (s' : Shared) : Prop
 | mk (W' : Wd) (σ' : St) (l : W.le W') (R : RelS G X W' σ' s') (h : Φ b σ')
inductive PU (G : Gx) (X : Fx) (W : Wd) (Φ : St -> Prop) (u : Unit) (s' : Shared) : Prop
 | mk (W' : Wd) (σ' : St) (l : W.le W') (R : RelS G X W' σ' s') (h : Φ σ')
inductive RFl (G : Gx) (W : Wd) : Flow -> Fl -> Prop
 | next : RFl G W .next .next
 | brk : RFl G W .brk .brk
 | cont : RFl G W .cont .cont
 | ret {v : Value} {d : V} (h : RV G.P G.K W v d) : RFl G W (.ret v) (.ret d)
inductive PF (G : Gx) (X : Fx) (W : Wd) (Φ : Fl -> St -> Prop) (f : Flow) (s' : Shared) : Prop
 | mk (W' : Wd) (d : Fl) (σ' : St) (l : W.le W') (r : RFl G W' f d) (R : RelS G X W' σ' s') (h : Φ d σ')
section
variable {G : Gx} {X : Fx} {W W' : Wd}
theorem PV.mono {Φ Φ' : V -> St -> Prop} (l : W.le W') (k : ∀ d σ, Φ d σ -> Φ' d σ) {v : Value} {s : Shared} (x : PV G X W' Φ v s) : PV G X W Φ' v s := by
 obtain ⟨W1, d, σ', a, b, c, e⟩ := x; exact ⟨W1, d, σ', l.trans a, b, c, k _ _ e⟩
theorem PVs.mono {Φ Φ' : List V -> St -> Prop} (l : W.le W') (k : ∀ d σ, Φ d σ -> Φ' d σ) {v : List Value} {s : Shared} (x : PVs G X W' Φ v s) : PVs G X W Φ' v s := by
 obtain ⟨W1, d, σ', a, b, c, e⟩ := x; exact ⟨W1, d, σ', l.trans a, b, c, k _ _ e⟩
theorem PB.mono {Φ Φ' : Bool -> St -> Prop} (l : W.le W') (k : ∀ d σ, Φ d σ -> Φ' d σ) {v : Bool} {s : Shared} (x : PB G X W' Φ v s) : PB G X W Φ' v s := by
 obtain ⟨W1, σ', a, c, e⟩ := x; exact ⟨W1, σ', l.trans a, c, k _ _ e⟩
theorem PU.mono {Φ Φ' : St -> Prop} (l : W.le W') (k : ∀ σ, Φ σ -> Φ' σ) {v : Unit} {s : Shared} (x : PU G X W' Φ v s) : PU G X W Φ' v s := by
 obtain ⟨W1, σ', a, c, e⟩ := x; exact ⟨W1, σ', l.trans a, c, k _ e⟩
theorem PF.mono {Φ Φ' : Fl -> St -> Prop} (l : W.le W') (k : ∀ d σ, Φ d σ -> Φ' d σ) {v : Flow} {s : Shared} (x : PF G X W' Φ v s) : PF G X W Φ' v s := by
 obtain ⟨W1, d, σ', a, b, c, e⟩ := x; exact ⟨W1, d, σ', l.trans a, b, c, k _ _ e⟩
theorem EE.as {Y : Fx} {Ψ : Ps} {v : Value} {s : Shared} (y : EE G Y Ψ v s) (k : ∀ a l h, Raised G Y v a l h -> Raised G X v a l h := by exact fun _ _ _ h => h) : EE G X Ψ v s := by
 obtain ⟨a, l, b, c, d⟩ := y; exact ⟨a, l, b, k _ _ _ c, d⟩
theorem EE.mono {Ψ Ψ' : Ps} (k : ∀ a l, Ψ a l -> Ψ' a l) {v : Value} {s : Shared} (x : EE G X Ψ v s) : EE G X Ψ' v s := by
 obtain ⟨a, l, b, c, d⟩ := x; exact ⟨a, l, k _ _ b, c, d⟩
end
noncomputable def TV (G : Gx) (X : Fx) (t : Sem Value) (Φ : V -> St -> Prop) (Ψ : Ps) (W : Wd) (σ : St) : Prop := ∀ s, RelS G X W σ s -> wpAny G.M X.A t (PV G X W Φ) (EE G X Ψ) s
noncomputable def TVs (G : Gx) (X : Fx) (t : Sem (List Value)) (Φ : List V -> St -> Prop) (Ψ : Ps) (W : Wd) (σ : St) : Prop := ∀ s, RelS G X W σ s -> wpAny G.M X.A t (PVs G X W Φ) (EE G X Ψ) s
noncomputable def TB (G : Gx) (X : Fx) (t : Sem Bool) (Φ : Bool -> St -> Prop) (Ψ : Ps) (W : Wd) (σ : St) : Prop := ∀ s, RelS G X W σ s -> wpAny G.M X.A t (PB G X W Φ) (EE G X Ψ) s
noncomputable def TU (G : Gx) (X : Fx) (t : Sem Unit) (Φ : St -> Prop) (Ψ : Ps) (W : Wd) (σ : St) : Prop := ∀ s, RelS G X W σ s -> wpAny G.M X.A t (PU G X W Φ) (EE G X Ψ) s
noncomputable def TF (G : Gx) (X : Fx) (t : Sem Flow) (Φ : Fl -> St -> Prop) (Ψ : Ps) (W : Wd) (σ : St) : Prop := ∀ s, RelS G X W σ s -> wpAny G.M X.A t (PF G X W Φ) (EE G X Ψ) s
noncomputable def EX (G : Gx) (X : Fx) (e : Expr) (Φ : V -> St -> Prop) (Ψ : Ps) (σ : St) : Prop := ∀ W, TV G X (eval e X.env) Φ Ψ W σ
noncomputable def TX (G : Gx) (X : Fx) (e : Expr) (Φ : Bool -> St -> Prop) (Ψ : Ps) (σ : St) : Prop := ∀ W, TB G X (isTrue e X.env (eval e X.env)) Φ Ψ W σ
noncomputable def AX (G : Gx) (X : Fx) (q : Pos) (es : List Expr) (Φ : List V -> St -> Prop) (Ψ : Ps) (σ : St) : Prop := ∀ W, TVs G X (spliced (backTo q (starEach es X.env))) Φ Ψ W σ
noncomputable def SX (G : Gx) (X : Fx) (t : Stmt) (Φ : Fl -> St -> Prop) (Ψ : Ps) (σ : St) : Prop := ∀ W, TF G X (exec t X.env) Φ Ψ W σ
noncomputable def SSX (G : Gx) (X : Fx) (ts : List Stmt) (Φ : Fl -> St -> Prop) (Ψ : Ps) (σ : St) : Prop := ∀ W, TF G X (execs ts X.env) Φ Ψ W σ
noncomputable def BIN (G : Gx) (X : Fx) (op : Operator) (a b : V) (Φ : V -> St -> Prop) (Ψ : Ps) (σ : St) : Prop := ∀ W x y, RV G.P G.K W x a -> RV G.P G.K W y b -> TV G X (binaryOp op x y) Φ Ψ W σ
noncomputable def UN (G : Gx) (X : Fx) (op : UnaryOp) (a : V) (Φ : V -> St -> Prop) (Ψ : Ps) (σ : St) : Prop := ∀ W x, RV G.P G.K W x a -> TV G X (unaryOp op x) Φ Ψ W σ
noncomputable def CMP (G : Gx) (X : Fx) (op : CmpOp) (a b : V) (Φ : V -> St -> Prop) (Ψ : Ps) (σ : St) : Prop := ∀ W x y, RV G.P G.K W x a -> RV G.P G.K W y b -> TV G X (compareOp op x y) Φ Ψ W σ
noncomputable def TRU (G : Gx) (X : Fx) (a : V) (Φ : Bool -> St -> Prop) (Ψ : Ps) (σ : St) : Prop := ∀ W x, RV G.P G.K W x a -> TB G X (truthy x) Φ Ψ W σ
section
variable {G : Gx} {X : Fx} {σ : St} {Ψ : Ps}
theorem bk {e : List Stmt} {Φ Φ' : Fl -> St -> Prop} (h : SSX G X e Φ Ψ σ) (k : ∀ d σ, Φ d σ -> Φ' d σ) : SSX G X e Φ' Ψ σ :=
 fun W s r => wpAny_mono (h W s r) (fun _ _ y => y.mono .rfl k) fun _ _ y => y
set_option tactic.hygienic true in
theorem cH {x : Str} {pos : Pos} {d : V} {Φ : V -> St -> Prop} (hk : X.env.scope.kind = .function) (hm : Has x d σ.loc) (h : Φ d σ) : EX G X (.Name x pos) Φ Ψ σ := by
 intro W s r
 obtain ⟨⟨m, M, R⟩, S⟩ := r
 have st := R.st.loc x (List.mem_map.mpr ⟨_, hm.mem, rfl⟩)
 have lc := R.lc
 have cp := R.cp
 have R' : RelS G X W σ s := ⟨⟨m, M, R⟩, S⟩
 unfold Lc at lc
 split at lc
 ·rename_i q
  obtain ⟨v, hv, rv⟩ := lc x d hm.mem
  have hL : X.env = X.fenv := by unfold Fx.env; rw [q]
  refine wpAny_Name (wpAny_loadName_local hk st.1 (m := m) ?_ hv ⟨W, d, σ, .rfl, rv, R', h⟩) st.2
  rw [hL]; exact R.fr.ns
 ·rename_i e me mc q
  obtain ⟨v, hv, rv⟩ := lc.2 x d hm.mem
  have hL : X.env = e := by unfold Fx.env; rw [q]
  rw [q] at cp
  obtain ⟨oC, hC, ns⟩ := cp
  refine wpAny_Name (wpAny_loadName_local hk st.1 (m := mc) ?_ hv ⟨W, d, σ, .rfl, rv, R', h⟩) st.2
  rw [hL]
  exact ns.ns (R.nw _ (List.mem_append_left _ hC)).1
theorem fG {x : Str} {pos : Pos} {d : V} {Φ : V -> St -> Prop} (o : X.Ok G) (hm : HasG x d σ.glb) (h : Φ d σ) : EX G X (.Name x pos) Φ Ψ σ := by
 intro W s r
 have R' := r
 obtain ⟨⟨m, M, R⟩, S⟩ := r
 obtain ⟨h1, h2, v, hv, rv⟩ := R.st.glb _ hm.mem
 have q : PV G X W Φ v s := ⟨W, d, σ, .rfl, rv W, R', h⟩
 have hg : s.heap.Ns X.env.globals G.mg := by rw [o.eg]; exact o.top.g.keeps R.fr.keep
 rcases hv with hv | ⟨hv, hn, hb⟩ | hv
 ·exact Name_function_global o.ek h1 (loadGlobal_global hg (mg_of (o.kin.keeps R.fr.keep) (o.top.g.keeps R.fr.keep) hv) q) h2
 ·refine Name_function_global o.ek h1 (loadGlobal_builtin hg ?_ (show s.heap.Ns X.env.builtins G.mb from by rw [o.eb]; exact o.top.b.keeps R.fr.keep) ((o.top.builtins x hn).trans hb) q) h2
  exact mg_none_of (o.kin.keeps R.fr.keep) (o.top.g.keeps R.fr.keep) hv
 ·exact Name_function_global o.ek h1 (loadGlobal_global hg hv q) h2
end
noncomputable def MO.closed (n : Nat) : MO -> Bool
 | .list l => V.closeds n l
 | .inst _ fs => V.closedf n fs
noncomputable def af (n : Nat) (H : List (Option MO)) : Bool := H.all fun o => match o with
 | some o => o.closed n
 | none => true
section
variable {P : Params} {K : Frag} {W W' : Wd}
theorem ROb.cut {a : Addr} {o : MO} {m : List (Addr × Obj)} (n : Nat) (x : ROb P K W a o m) (c : o.closed n = true) : ROb P K (W.cut n) a o m := by
 cases x with
 | list hs => exact .list (hs.cut n c)
 | inst hc hs => exact .inst hc (hs.cut n c)
theorem Rend.snoc {as : List Addr} {H : List (Option MO)} {M : List (Addr × Obj)} (h : Rend P K W as H M) {a : Addr} {o : MO} {m : List (Addr × Obj)} (x : ROb P K W a o m) : Rend P K W (as ++ [a]) (H ++ [some o]) (M ++ m) := by
 induction h with
 | nil =>
  have := Rend.ob x .nil
  rwa [List.append_nil] at this
 | dead _ ih => exact .dead ih
 | ob y _ ih => rw [List.append_assoc]; exact .ob y ih
inductive RAt (P : Params) (K : Frag) (W : Wd) (as : List Addr) (H : List (Option MO)) (M : List (Addr × Obj)) (i : Nat) (o : MO) : Prop
 | mk (a : Addr) (m M1 M2 : List (Addr × Obj)) (h1 : as[i]? = some a) (h2 : ROb P K W a o m) (h3 : M = M1 ++ (m ++ M2))
   (h4 : ∀ o' m', ROb P K W a o' m' -> Rend P K W as (H.set i (some o')) (M1 ++ (m' ++ M2))) (h5 : Rend P K W as (H.set i none) (M1 ++ M2))
theorem Rend.at {as : List Addr} {H : List (Option MO)} {M : List (Addr × Obj)} (h : Rend P K W as H M) {i : Nat} {o : MO} (e : H[i]? = some (some o)) : RAt P K W as H M i o := by
 induction h generalizing i with
 | nil => injection e
 | dead _ ih => cases i with
  | zero => cases e
  | succ i =>
   obtain ⟨a, m, M1, M2, h1, h2, h3, h4, h5⟩ := ih (i := i) e
   exact ⟨a, m, M1, M2, h1, h2, h3, fun o' m' x => .dead (h4 o' m' x), .dead h5⟩
 | @ob a o m as H M x h ih => cases i with
  | zero => cases e; exact ⟨a, m, [], M, rfl, x, rfl, fun o' m' y => (show Rend P K W (a :: as) (some o' :: H) (m' ++ M) from .ob y h), .dead h⟩
  | succ i =>
   obtain ⟨b, m2, M1, M2, h1, h2, h3, h4, h5⟩ := ih (i := i) e
   exact ⟨b, m2, m ++ M1, M2, h1, h2, h3 ▸ (List.append_assoc ..).symm, fun o' m' y => List.append_assoc m M1 _ ▸ .ob x (h4 o' m' y), List.append_assoc m M1 _ ▸ .ob x h5⟩
theorem Rend.cut (n : Nat) {as : List Addr} {H : List (Option MO)} {M : List (Addr × Obj)} (h : Rend P K W as H M) (k : Nat) (c : af n (H.take k) = true) : ∃ M', Rend P K (W.cut n) (as.take k) (H.take k) M' /\ M'.Sublist M := by
 induction h generalizing k with
 | nil => exact ⟨[], by rw [List.take_nil, List.take_nil]; exact .nil, .slnil⟩
 | @dead a as H M _ ih => cases k with
  | zero => exact ⟨[], .nil, List.nil_sublist _⟩
  | succ k =>
   obtain ⟨M', r, s⟩ := ih k (show af n (H.take k) = true from c)
   exact ⟨M', .dead r, s⟩
 | @ob a o m as H M x _ ih => cases k with
  | zero => exact ⟨[], .nil, List.nil_sublist _⟩
  | succ k =>
   have c := Bool.and_eq_true_iff.mp (show (o.closed n && af n (H.take k)) = true from c)
   obtain ⟨M', r, s⟩ := ih k c.2
   exact ⟨m ++ M', .ob (x.cut n c.1) r, (List.Sublist.refl m).append s⟩
end
section
variable {G : Gx} {X : Fx} {W : Wd} {σ : St} {h : Heap} {m : Str -> Option Value} {M : List (Addr × Obj)}
theorem RelAt.fresh (R : RelAt G X W σ h m M) : h.objs.size ∉ (X.pins ++ (M ++ W.Z)).map (·.1) := fun q => by
 obtain ⟨p, hp, e⟩ := List.mem_map.mp q
 exact Nat.lt_irrefl _ (e ▸ Heap.lt_size (R.nw p hp).1)
theorem RelAt.pushed (R : RelAt G X W σ h m M) (o : Obj) (hf : o.isFreed = false) : News X.h₀ X.L (h.push o) ((h.objs.size, o) :: (X.pins ++ (M ++ W.Z))) := R.nw.push R.fr o hf
theorem Rel.allocZ (r : Rel G X W σ h) (o : Obj) (hf : o.isFreed = false) : Rel G X ⟨(h.objs.size, o) :: W.Z, W.α⟩ σ (h.push o) /\ W.le ⟨(h.objs.size, o) :: W.Z, W.α⟩ := by
 obtain ⟨m, M, R⟩ := r
 have l : W.le ⟨(h.objs.size, o) :: W.Z, W.α⟩ := ⟨fun p hp => .tail _ hp, fun _ _ e => e⟩
 have pm : (X.pins ++ (M ++ (h.objs.size, o) :: W.Z)).Perm ((h.objs.size, o) :: (X.pins ++ (M ++ W.Z))) := by
  rw [<- List.append_assoc, <- List.append_assoc]
  exact List.perm_middle
 exact ⟨⟨m, M, R.fr.push o, fun p hp => R.pushed o hf p (pm.mem_iff.mp hp), (pm.map _).nodup_iff.mpr (List.nodup_cons.mpr ⟨R.fresh, R.nod⟩), R.lc.mono l, R.re.mono l, R.st, R.cp⟩, l⟩
theorem Rel.allocList (r : Rel G X W σ h) {vs : List Value} {ds : List V} (n : Nat) (hs : RVs G.P G.K W vs ds) :
  Rel G X ⟨W.Z, W.α ++ [h.objs.size]⟩ { σ with heap := σ.heap ++ [some (.list ds)] } (h.push (aA "list" .none vs n #[])) /\ W.le ⟨W.Z, W.α ++ [h.objs.size]⟩ /\ RV G.P G.K ⟨W.Z, W.α ++ [h.objs.size]⟩ (.ref h.objs.size) (.loc σ.heap.length) := by
 obtain ⟨m, M, R⟩ := r
 have l : W.le ⟨W.Z, W.α ++ [h.objs.size]⟩ := ⟨fun p hp => hp, fun i a e => by
  obtain ⟨hi, _⟩ := List.getElem?_eq_some_iff.mp e
  show (W.α ++ [h.objs.size])[i]? = _
  rw [List.getElem?_append_left hi]; exact e⟩
 have len := R.re.len
 have pm : (X.pins ++ (M ++ [(h.objs.size, aA "list" .none vs n #[])] ++ W.Z)).Perm ((h.objs.size, aA "list" .none vs n #[]) :: (X.pins ++ (M ++ W.Z))) := by
  rw [List.append_assoc, List.singleton_append, <- List.append_assoc, <- List.append_assoc]
  exact List.perm_middle
 refine ⟨⟨m, M ++ [(h.objs.size, aA "list" .none vs n #[])], R.fr.push _, fun p hp => R.pushed _ rfl p (pm.mem_iff.mp hp), (pm.map _).nodup_iff.mpr (List.nodup_cons.mpr ⟨R.fresh, R.nod⟩), R.lc.mono l, (R.re.mono l).snoc (.list (hs.mono l)), ⟨R.st.nod, R.st.loc, R.st.glb⟩, R.cp⟩, l, .loc ?_⟩
 show (W.α ++ [h.objs.size])[_]? = _
 rw [<- len]
 simp
theorem Rel.setList (r : Rel G X W σ h) {i : Nat} {ds : List V} (hi : σ.heap[i]? = some (some (.list ds))) :
  ∃ a vs n, W.α[i]? = some a /\ RVs G.P G.K W vs ds /\ h.get? a = some (aA "list" .none vs n #[]) /\
   ∀ (f : Obj -> Obj) vs' ds' n', f (aA "list" .none vs n #[]) = aA "list" .none vs' n' #[] -> RVs G.P G.K W vs' ds' -> Rel G X W { σ with heap := σ.heap.set i (some (.list ds')) } (h.update a f) := by
 obtain ⟨m, M, R⟩ := r
 obtain ⟨a, mm, M1, M2, h1, h2, h3, h4, _⟩ := R.re.at hi
 subst h3
 cases h2 with
 | @list vs _ n hs =>
 have e : ∀ q : Addr × Obj, X.pins ++ (M1 ++ ([q] ++ M2) ++ W.Z) = (X.pins ++ M1) ++ q :: (M2 ++ W.Z) := fun q => by simp
 have nw := R.nw
 have nd := R.nod
 rw [e] at nw nd
 refine ⟨a, vs, n, h1, hs, (nw (a, _) (List.mem_append_right _ (.head _))).1, fun f vs' ds' n' hf hs' => ?_⟩
 have nd' := nd
 rw [List.map_append, List.map_cons, List.nodup_append, List.nodup_cons] at nd'
 obtain ⟨u1, u2⟩ := news_upd (f := f) R.fr nw (fun p hp q => nd'.2.2 p.1 (List.mem_map_of_mem hp) a (.head _) q) (fun p hp q => nd'.2.1.1 (List.mem_map.mpr ⟨p, hp, q⟩)) hf rfl
 refine ⟨m, M1 ++ ([(a, aA "list" .none vs' n' #[])] ++ M2), u1, e _ ▸ u2, ?_, R.lc, h4 _ _ (.list hs'), ⟨R.st.nod, R.st.loc, R.st.glb⟩, R.cp⟩
 rw [e, List.map_append, List.map_cons]
 rw [List.map_append, List.map_cons] at nd
 exact nd
inductive SetD (G : Gx) (X : Fx) (W : Wd) (σ : St) (h : Heap) (i : Nat) (c : Str) (fs : List (Str × V)) : Prop
 | mk (x dx C : Addr) (es : List DictEntry) (n : Nat) (pre post : List (Addr × Obj)) (h1 : W.α[i]? = some x) (h2 : nsIn G.K mainGlobals c = some (some (.ref C))) (h3 : RFs G.P G.K W es fs)
  (m : Str -> Option Value) (F : Fr X.h₀ X.L h m) (N : News X.h₀ X.L h (pre ++ (dx, dictOf es n) :: post)) (hx : (x, instObj C dx) ∈ pre) (a : ∀ p ∈ pre, p.1 ≠ dx) (b : ∀ p ∈ post, p.1 ≠ dx)
  (k : ∀ h' es' n' fs', Fr X.h₀ X.L h' m -> News X.h₀ X.L h' (pre ++ (dx, dictOf es' n') :: post) -> RFs G.P G.K W es' fs' -> Rel G X W { σ with heap := σ.heap.set i (some (.inst c fs')) } h')
theorem Rel.setInst (r : Rel G X W σ h) {i : Nat} {c : Str} {fs : List (Str × V)} (hi : σ.heap[i]? = some (some (.inst c fs))) :
  SetD G X W σ h i c fs := by
 obtain ⟨m, M, R⟩ := r
 obtain ⟨x, mm, M1, M2, h1, h2, h3, h4, _⟩ := R.re.at hi
 subst h3
 cases h2 with
 | @inst dx C _ es _ n hc hs =>
 have e : ∀ q : Obj, X.pins ++ (M1 ++ ([(x, instObj C dx), (dx, q)] ++ M2) ++ W.Z) = (X.pins ++ M1 ++ [(x, instObj C dx)]) ++ (dx, q) :: (M2 ++ W.Z) := fun q => by simp
 have nw := R.nw
 have nd := R.nod
 rw [e] at nw nd
 have nd' := nd
 rw [List.map_append, List.map_cons, List.nodup_append, List.nodup_cons] at nd'
 refine ⟨x, dx, C, es, n, _, _, h1, hc, hs, m, R.fr, nw, List.mem_append_right _ (.head _), fun p hp q => nd'.2.2 p.1 (List.mem_map_of_mem hp) dx (.head _) q, fun p hp q => nd'.2.1.1 (List.mem_map.mpr ⟨p, hp, q⟩), fun h' es' n' fs' F' N' hs' => ?_⟩
 refine ⟨m, M1 ++ ([(x, instObj C dx), (dx, dictOf es' n')] ++ M2), F', e _ ▸ N', ?_, R.lc, h4 _ _ (.inst hc hs'), ⟨R.st.nod, R.st.loc, R.st.glb⟩, R.cp⟩
 rw [e, List.map_append, List.map_cons]
 rw [List.map_append, List.map_cons] at nd
 exact nd
theorem Rel.freeze (r : Rel G X W σ h) {i : Nat} {o : MO} (hi : σ.heap[i]? = some (some o)) :
  ∃ a m, W.α[i]? = some a /\ ROb G.P G.K W a o m /\ W.le ⟨m ++ W.Z, W.α⟩ /\ Rel G X ⟨m ++ W.Z, W.α⟩ { σ with heap := σ.heap.set i none } h := by
 obtain ⟨m, M, R⟩ := r
 obtain ⟨a, mm, M1, M2, h1, h2, h3, h4, h5⟩ := R.re.at hi
 subst h3
 have l : W.le ⟨mm ++ W.Z, W.α⟩ := ⟨fun p hp => List.mem_append_right _ hp, fun _ _ e => e⟩
 have pm : (X.pins ++ (M1 ++ M2 ++ (mm ++ W.Z))).Perm (X.pins ++ (M1 ++ (mm ++ M2) ++ W.Z)) := by
  rw [List.append_assoc, List.append_assoc, List.append_assoc]
  refine List.Perm.append_left _ (List.Perm.append_left _ ?_)
  rw [<- List.append_assoc, <- List.append_assoc]
  exact List.perm_append_comm.append_right _
 exact ⟨a, mm, h1, h2, l, m, M1 ++ M2, R.fr, fun p hp => R.nw p (pm.mem_iff.mp hp), (pm.map _).nodup_iff.mpr R.nod, R.lc.mono l, h5.mono l, ⟨R.st.nod, R.st.loc, R.st.glb⟩, R.cp⟩
theorem Rel.freezeList (r : Rel G X W σ h) {i : Nat} {ds : List V} (hi : σ.heap[i]? = some (some (.list ds))) :
  ∃ W', W.le W' /\ Rel G X W' { σ with heap := σ.heap.set i none } h /\ ∀ v, RV G.P G.K W v (.loc i) -> RV G.P G.K W' v (.lst ds) := by
 obtain ⟨a, m, h1, h2, l, R⟩ := r.freeze hi
 refine ⟨_, l, R, fun v hv => ?_⟩
 cases hv.inv with
 | loc e => cases h2 with
  | list hs => rw [h1] at e; obtain rfl := Option.some.inj e; exact .lst (.inr (.head _)) (hs.mono l)
theorem Rel.freezeInst (r : Rel G X W σ h) {i : Nat} {c : Str} {fs : List (Str × V)} (hi : σ.heap[i]? = some (some (.inst c fs))) :
  ∃ W', W.le W' /\ Rel G X W' { σ with heap := σ.heap.set i none } h /\ ∀ v, RV G.P G.K W v (.loc i) -> RV G.P G.K W' v (.obj c fs) := by
 obtain ⟨a, m, h1, h2, l, R⟩ := r.freeze hi
 refine ⟨_, l, R, fun v hv => ?_⟩
 cases hv.inv with
 | loc e => cases h2 with
  | inst hc hs => rw [h1] at e; obtain rfl := Option.some.inj e; exact .obj hc (.inr (.head _)) (.inr (.tail _ (.head _))) (hs.mono l)
end
section
variable {G : Gx} {X : Fx} {σ : St} {Ψ : Ps} {Φ : V -> St -> Prop} {ΦB : Bool -> St -> Prop} {ΦF : Fl -> St -> Prop} {W : Wd}
theorem seqV {α : Type} {t : Sem Value} {Φ' : V -> St -> Prop} {s : Shared} {Q : α -> Shared -> Prop} {f : Value -> Sem α} (h : wpAny G.M X.A t (PV G X W Φ') (EE G X Ψ) s)
  (k : ∀ W' v d σ' s', W.le W' -> RV G.P G.K W' v d -> Φ' d σ' -> RelS G X W' σ' s' -> wpAny G.M X.A (f v) Q (EE G X Ψ) s') : wpAny G.M X.A (t >>= f) Q (EE G X Ψ) s :=
 wpAny_bind (wpAny_mono h (fun _ s' ⟨W', d, σ', a, b, c, e⟩ => k W' _ d σ' s' a b e c) fun _ _ y => y)
theorem iG {i : Int} {k : Nat} {pos : Pos} (h : Φ (.int i) σ) : EX G X (.Constant (.int i) k pos) Φ Ψ σ := fun W s r => wpAny_Constant_int ⟨W, _, σ, .rfl, .int _ _, r.tok, h⟩
theorem ex_str {x : Str} {k : Nat} {pos : Pos} (h : Φ (.str x.cps.toList) σ) : EX G X (.Constant (.str x) k pos) Φ Ψ σ := fun W s r => Constant_str ⟨W, _, σ, .rfl, .str _ _, r.tok, h⟩
theorem ex_bytes {x : List UInt8} {k : Nat} {pos : Pos} (h : Φ (.bytes x) σ) : EX G X (.Constant (.bytes x) k pos) Φ Ψ σ := fun W s r => Constant_bytes ⟨W, _, σ, .rfl, .bytes x.toArray _, r.tok, h⟩
theorem ex_none {k : Nat} {pos : Pos} (h : Φ .none σ) : EX G X (.Constant .none k pos) Φ Ψ σ := fun W s r => wpAny_pure ⟨W, _, σ, .rfl, .none, r, h⟩
theorem ex_bool {b : Bool} {k : Nat} {pos : Pos} (h : Φ (.bool b) σ) : EX G X (.Constant (.bool b) k pos) Φ Ψ σ := fun W s r => wpAny_pure ⟨W, _, σ, .rfl, .bool b, r, h⟩
theorem cI {l r : Expr} {op : Operator} {pos : Pos} (h : EX G X l (fun a σ1 => EX G X r (fun b σ2 => BIN G X op a b Φ Ψ σ2) Ψ σ1) Ψ σ) : EX G X (.BinOp l op r pos) Φ Ψ σ := by
 intro W s R
 refine wpAny_BinOp (wpAny_mono (h W s R) (fun va s_1 yy => ?_) fun _ _ y => y)
 obtain ⟨W1, a, σ1, l_1, ra, R_1, h_1⟩ := yy
 refine wpAny_mono (h_1 W1 s_1 R_1) (fun vb s_2 yy => ?_) fun _ _ y => y
 obtain ⟨W_2, b, σ2, l_2, rb, R_2, h_2⟩ := yy
 exact wpAny_mono (h_2 W_2 va vb (ra.mono l_2) rb s_2 R_2) (fun _ _ y => y.mono (l_1.trans l_2) fun _ _ z => z) fun _ _ y => y
theorem ex_unop {e : Expr} {op : UnaryOp} {pos : Pos} (h : EX G X e (fun a σ1 => UN G X op a Φ Ψ σ1) Ψ σ) : EX G X (.UnaryOp op e pos) Φ Ψ σ := by
 intro W s R
 refine wpAny_UnaryOp (wpAny_mono (h W s R) (fun va s_1 yy => ?_) fun _ _ y => y)
 obtain ⟨W1, a, σ1, l_1, ra, R_1, h_1⟩ := yy
 exact wpAny_mono (h_1 W1 va ra s_1 R_1) (fun _ _ y => y.mono l_1 fun _ _ z => z) fun _ _ y => y
theorem ex_cmp {l r : Expr} {op : CmpOp} {pos : Pos} (hm : behindInMarks op r = false) (h : EX G X l (fun a σ1 => EX G X r (fun b σ2 => CMP G X op a b Φ Ψ σ2) Ψ σ1) Ψ σ) : EX G X (.Compare l [op] [r] pos) Φ Ψ σ := by
 intro W s R
 refine wpAny_Compare1 (wpAny_mono (h W s R) (fun va s_1 yy => ?_) fun _ _ y => y) hm
 obtain ⟨W1, a, σ1, l_1, ra, R_1, h_1⟩ := yy
 refine wpAny_mono (h_1 W1 s_1 R_1) (fun vb s_2 yy => ?_) fun _ _ y => y
 obtain ⟨W_2, b, σ2, l_2, rb, R_2, h_2⟩ := yy
 exact wpAny_mono (h_2 W_2 va vb (ra.mono l_2) rb s_2 R_2) (fun _ _ y => y.mono (l_1.trans l_2) fun _ _ z => z) fun _ _ y => y
theorem gE {t b e : Expr} {pos : Pos} (h : TX G X t (fun c σ1 => (c = true -> EX G X b Φ Ψ σ1) /\ (c = false -> EX G X e Φ Ψ σ1)) Ψ σ) : EX G X (.IfExp t b e pos) Φ Ψ σ := by
 intro W s R
 refine wpAny_IfExp (wpAny_mono (h W s R) (fun c s_1 yy => ?_) fun _ _ y => y)
 obtain ⟨W1, σ1, l_1, R_1, h_1⟩ := yy
 cases c with
 | true => exact wpAny_mono (h_1.1 rfl W1 s_1 R_1) (fun _ _ y => y.mono l_1 fun _ _ z => z) fun _ _ y => y
 | false => exact wpAny_mono (h_1.2 rfl W1 s_1 R_1) (fun _ _ y => y.mono l_1 fun _ _ z => z) fun _ _ y => y
theorem gX {l r : Expr} {op : CmpOp} {pos : Pos} (hm : behindInMarks op r = false) (h : EX G X l (fun a σ1 => EX G X r (fun b σ2 => CMP G X op a b (fun c σ3 => TRU G X c ΦB Ψ σ3) Ψ σ2) Ψ σ1) Ψ σ) : TX G X (.Compare l [op] [r] pos) ΦB Ψ σ := by
 intro W s R
 refine wpAny_isTrue_Compare1 (wpAny_mono (h W s R) (fun va s_1 yy => ?_) fun _ _ y => y) hm
 obtain ⟨W1, a, σ1, l_1, ra, R_1, h_1⟩ := yy
 refine wpAny_mono (h_1 W1 s_1 R_1) (fun vb s_2 yy => ?_) fun _ _ y => y
 obtain ⟨W_2, b, σ2, l_2, rb, R_2, h_2⟩ := yy
 refine wpAny_mono (h_2 W_2 va vb (ra.mono l_2) rb s_2 R_2) (fun vc s_3 yy => ?_) fun _ _ y => y
 obtain ⟨W_3, c, σ3, l_3, rc, R_3, h_3⟩ := yy
 exact wpAny_mono (h_3 W_3 vc rc s_3 R_3) (fun _ _ y => y.mono ((l_1.trans l_2).trans l_3) fun _ _ z => z) fun _ _ y => y
theorem tx_not {e : Expr} {pos : Pos} (h : TX G X e (fun c σ1 => ΦB (!c) σ1) Ψ σ) : TX G X (.UnaryOp .Not e pos) ΦB Ψ σ := by
 intro W s R
 exact isTrue_not (wpAny_mono (h W s R) (fun c s_1 ⟨W1, σ1, l_1, R_1, h_1⟩ => ⟨W1, σ1, l_1, R_1, h_1⟩) fun _ _ y => y)
noncomputable def plainTest : Expr -> Bool
 | .UnaryOp .Not _ _ => false
 | .BoolOp .. => false
 | .IfExp .. => false
 | .Compare .. => false
 | _ => true
theorem ip {e : Expr} {env : Env} (h : plainTest e = true) (whole : Sem Value) : isTrue e env whole = (do let v <- whole; standAt e.pos; holding [v] (truthy v)) := by
 cases e with
 | UnaryOp op x p => cases op <;> first | rfl | exact Bool.noConfusion (show false = true from h)
 | BoolOp => exact Bool.noConfusion (show false = true from h)
 | IfExp => exact Bool.noConfusion (show false = true from h)
 | Compare => exact Bool.noConfusion (show false = true from h)
 | _ => rfl
theorem jc {e : Expr} (hp : plainTest e = true) (h : EX G X e (fun a σ1 => TRU G X a ΦB Ψ σ1) Ψ σ) : TX G X e ΦB Ψ σ := by
 intro W s R
 refine isTrue_plain (wpAny_mono (h W s R) (fun va s_1 yy => ?_) fun _ _ y => y) (ip hp _)
 obtain ⟨W1, a, σ1, l_1, ra, R_1, h_1⟩ := yy
 exact wpAny_mono (h_1 W1 va ra s_1 R_1) (fun _ _ y => y.mono l_1 fun _ _ z => z) fun _ _ y => y
noncomputable def TXs (G : Gx) (X : Fx) (op : BoolOp) (es : List Expr) (Φ : Bool -> St -> Prop) (Ψ : Ps) (σ : St) : Prop := ∀ W, TB G X (allTrue op es X.env) Φ Ψ W σ
theorem tx_bool {op : BoolOp} {es : List Expr} {pos : Pos} (h : TXs G X op es ΦB Ψ σ) : TX G X (.BoolOp op es pos) ΦB Ψ σ := h
theorem gW {op : BoolOp} (h : ΦB (op == .And) σ) : TXs G X op [] ΦB Ψ σ := fun W s R => wpAny_pure ⟨W, σ, .rfl, R, h⟩
theorem fJ {e : Expr} {es : List Expr} (h : TX G X e (fun c σ1 => (c = true -> TXs G X .And es ΦB Ψ σ1) /\ (c = false -> ΦB false σ1)) Ψ σ) : TXs G X .And (e :: es) ΦB Ψ σ := by
 intro W s R
 show wpAny _ _ (isTrue e X.env (eval e X.env) >>= fun t => _) _ _ _
 refine wpAny_bind (wpAny_mono (h W s R) (fun c s_1 yy => ?_) fun _ _ y => y)
 obtain ⟨W1, σ1, l_1, R_1, h_1⟩ := yy
 cases c with
 | true => exact wpAny_mono (h_1.1 rfl W1 s_1 R_1) (fun _ _ y => y.mono l_1 fun _ _ z => z) fun _ _ y => y
 | false => exact wpAny_pure ⟨W1, σ1, l_1, R_1, h_1.2 rfl⟩
theorem txs_or {e : Expr} {es : List Expr} (h : TX G X e (fun c σ1 => (c = true -> ΦB true σ1) /\ (c = false -> TXs G X .Or es ΦB Ψ σ1)) Ψ σ) : TXs G X .Or (e :: es) ΦB Ψ σ := by
 intro W s R
 show wpAny _ _ (isTrue e X.env (eval e X.env) >>= fun t => _) _ _ _
 refine wpAny_bind (wpAny_mono (h W s R) (fun c s_1 yy => ?_) fun _ _ y => y)
 obtain ⟨W1, σ1, l_1, R_1, h_1⟩ := yy
 cases c with
 | true => exact wpAny_pure ⟨W1, σ1, l_1, R_1, h_1.1 rfl⟩
 | false => exact wpAny_mono (h_1.2 rfl W1 s_1 R_1) (fun _ _ y => y.mono l_1 fun _ _ z => z) fun _ _ y => y
noncomputable def TC (G : Gx) (X : Fx) (a : V) (ops : List CmpOp) (es : List Expr) (Φ : Bool -> St -> Prop) (Ψ : Ps) (σ : St) : Prop := ∀ W pos va, RV G.P G.K W va a -> TB G X (testChain pos va ops (evalEach es X.env)) Φ Ψ W σ
noncomputable def EC (G : Gx) (X : Fx) (a : V) (ops : List CmpOp) (es : List Expr) (Φ : V -> St -> Prop) (Ψ : Ps) (σ : St) : Prop := ∀ W pos va, RV G.P G.K W va a -> TV G X (compareChain pos va ops (evalEach es X.env)) Φ Ψ W σ
theorem tx_chain {l r_1 r_2 : Expr} {op1 op2 : CmpOp} {ops : List CmpOp} {rs : List Expr} {pos : Pos} (hm : lastMarks (op1 :: op2 :: ops) (r_1 :: r_2 :: rs) = false)
  (h : EX G X l (fun a σ1 => TC G X a (op1 :: op2 :: ops) (r_1 :: r_2 :: rs) ΦB Ψ σ1) Ψ σ) : TX G X (.Compare l (op1 :: op2 :: ops) (r_1 :: r_2 :: rs) pos) ΦB Ψ σ := by
 intro W s R
 refine isTrue_chain (wpAny_mono (h W s R) (fun va s_1 yy => ?_) fun _ _ y => y) hm
 obtain ⟨W1, a, σ1, l_1, ra, R_1, h_1⟩ := yy
 exact wpAny_mono (h_1 W1 pos va ra s_1 R_1) (fun _ _ y => y.mono l_1 fun _ _ z => z) fun _ _ y => y
theorem ex_chain {l r_1 r_2 : Expr} {op1 op2 : CmpOp} {ops : List CmpOp} {rs : List Expr} {pos : Pos} (hm : lastMarks (op1 :: op2 :: ops) (r_1 :: r_2 :: rs) = false)
  (h : EX G X l (fun a σ1 => EC G X a (op1 :: op2 :: ops) (r_1 :: r_2 :: rs) Φ Ψ σ1) Ψ σ) : EX G X (.Compare l (op1 :: op2 :: ops) (r_1 :: r_2 :: rs) pos) Φ Ψ σ := by
 intro W s R
 refine Compare_chain (wpAny_mono (h W s R) (fun va s_1 yy => ?_) fun _ _ y => y) hm
 obtain ⟨W1, a, σ1, l_1, ra, R_1, h_1⟩ := yy
 exact wpAny_mono (h_1 W1 pos va ra s_1 R_1) (fun _ _ y => y.mono l_1 fun _ _ z => z) fun _ _ y => y
theorem tc_last {a : V} {op : CmpOp} {r : Expr} (h : EX G X r (fun b σ1 => CMP G X op a b (fun c σ2 => TRU G X c ΦB Ψ σ2) Ψ σ1) Ψ σ) : TC G X a [op] [r] ΦB Ψ σ := by
 intro W pos va ra s R
 show wpAny _ _ (holding [va] (eval r X.env) >>= fun rv => _) _ _ _
 refine wpAny_bind (wpAny_holding (wpAny_mono (h W s R) (fun vb s_1 yy => ?_) fun _ _ y => y))
 obtain ⟨W1, b, σ1, l_1, rb, R_1, h_1⟩ := yy
 refine wpAny_bind (wpAny_standAt (wpAny_bind (wpAny_operating (wpAny_mono (h_1 W1 va vb (ra.mono l_1) rb s_1 R_1) (fun vc s_2 yy => ?_) fun _ _ y => y))))
 obtain ⟨W_2, c, σ2, l_2, rc, R_2, h_2⟩ := yy
 exact wpAny_holding (wpAny_mono (h_2 W_2 vc rc s_2 R_2) (fun _ _ y => y.mono (l_1.trans l_2) fun _ _ z => z) fun _ _ y => y)
theorem tc_more {a : V} {op op' : CmpOp} {ops : List CmpOp} {r r' : Expr} {rs : List Expr} (h : EX G X r (fun b σ1 => CMP G X op a b (fun c σ2 => TRU G X c (fun t σ3 => (t = true -> TC G X b (op' :: ops) (r' :: rs) ΦB Ψ σ3) /\ (t = false -> ΦB false σ3)) Ψ σ2) Ψ σ1) Ψ σ) :
  TC G X a (op :: op' :: ops) (r :: r' :: rs) ΦB Ψ σ := by
 intro W pos va ra s R
 show wpAny _ _ (holding [va] (eval r X.env) >>= fun rv => _) _ _ _
 refine wpAny_bind (wpAny_holding (wpAny_mono (h W s R) (fun vb s_1 yy => ?_) fun _ _ y => y))
 obtain ⟨W1, b, σ1, l_1, rb, R_1, h_1⟩ := yy
 refine wpAny_bind (wpAny_standAt (wpAny_bind (wpAny_holding (wpAny_mono (h_1 W1 va vb (ra.mono l_1) rb s_1 R_1) (fun vc s_2 yy => ?_) fun _ _ y => y))))
 obtain ⟨W_2, c, σ2, l_2, rc, R_2, h_2⟩ := yy
 refine wpAny_bind (wpAny_release' ?_)
 refine wpAny_bind (wpAny_holding (wpAny_mono (h_2 W_2 vc rc s_2 R_2) (fun t s_3 yy => ?_) fun _ _ y => y))
 obtain ⟨W_3, σ3, l_3, R_3, h_3⟩ := yy
 cases t with
 | true => exact wpAny_mono (h_3.1 rfl W_3 pos vb (rb.mono (l_2.trans l_3)) s_3 R_3) (fun _ _ y => y.mono ((l_1.trans l_2).trans l_3) fun _ _ z => z) fun _ _ y => y
 | false => exact wpAny_pure ⟨W_3, σ3, (l_1.trans l_2).trans l_3, R_3, h_3.2 rfl⟩
theorem ec_last {a : V} {op : CmpOp} {r : Expr} (h : EX G X r (fun b σ1 => CMP G X op a b Φ Ψ σ1) Ψ σ) : EC G X a [op] [r] Φ Ψ σ := by
 intro W pos va ra s R
 show wpAny _ _ (holding [va] (eval r X.env) >>= fun rv => _) _ _ _
 refine wpAny_bind (wpAny_holding (wpAny_mono (h W s R) (fun vb s_1 yy => ?_) fun _ _ y => y))
 obtain ⟨W1, b, σ1, l_1, rb, R_1, h_1⟩ := yy
 exact wpAny_bind (wpAny_standAt (wpAny_operating (wpAny_mono (h_1 W1 va vb (ra.mono l_1) rb s_1 R_1) (fun _ _ y => y.mono l_1 fun _ _ z => z) fun _ _ y => y)))
theorem ec_more {a : V} {op op' : CmpOp} {ops : List CmpOp} {r r' : Expr} {rs : List Expr} (h : EX G X r (fun b σ1 => CMP G X op a b (fun c σ2 => TRU G X c (fun t σ3 => (t = true -> EC G X b (op' :: ops) (r' :: rs) Φ Ψ σ3) /\ (t = false -> Φ c σ3)) Ψ σ2) Ψ σ1) Ψ σ) :
  EC G X a (op :: op' :: ops) (r :: r' :: rs) Φ Ψ σ := by
 intro W pos va ra s R
 show wpAny _ _ (holding [va] (eval r X.env) >>= fun rv => _) _ _ _
 refine wpAny_bind (wpAny_holding (wpAny_mono (h W s R) (fun vb s_1 yy => ?_) fun _ _ y => y))
 obtain ⟨W1, b, σ1, l_1, rb, R_1, h_1⟩ := yy
 refine wpAny_bind (wpAny_standAt (wpAny_bind (wpAny_holding (wpAny_mono (h_1 W1 va vb (ra.mono l_1) rb s_1 R_1) (fun vc s_2 yy => ?_) fun _ _ y => y))))
 obtain ⟨W_2, c, σ2, l_2, rc, R_2, h_2⟩ := yy
 refine wpAny_bind (wpAny_release' ?_)
 refine wpAny_bind (wpAny_holding (wpAny_mono (h_2 W_2 vc rc s_2 R_2) (fun t s_3 yy => ?_) fun _ _ y => y))
 obtain ⟨W_3, σ3, l_3, R_3, h_3⟩ := yy
 cases t with
 | true => exact wpAny_mono (h_3.1 rfl W_3 pos vb (rb.mono (l_2.trans l_3)) s_3 R_3) (fun _ _ y => y.mono ((l_1.trans l_2).trans l_3) fun _ _ z => z) fun _ _ y => y
 | false => exact wpAny_pure ⟨W_3, c, σ3, (l_1.trans l_2).trans l_3, rc.mono l_3, R_3, h_3.2 rfl⟩
noncomputable def EB (G : Gx) (X : Fx) (op : BoolOp) (es : List Expr) (Φ : V -> St -> Prop) (Ψ : Ps) (σ : St) : Prop := ∀ W pos, TV G X (boolOp pos op (evalEach es X.env)) Φ Ψ W σ
theorem iI {op : BoolOp} {es : List Expr} {pos : Pos} (h : EB G X op es Φ Ψ σ) : EX G X (.BoolOp op es pos) Φ Ψ σ := fun W => h W pos
theorem eb_last {op : BoolOp} {e : Expr} (h : EX G X e Φ Ψ σ) : EB G X op [e] Φ Ψ σ := fun W _ => h W
theorem eb_and {e e' : Expr} {es : List Expr} (h : EX G X e (fun a σ1 => TRU G X a (fun t σ2 => (t = true -> EB G X .And (e' :: es) Φ Ψ σ2) /\ (t = false -> Φ a σ2)) Ψ σ1) Ψ σ) : EB G X .And (e :: e' :: es) Φ Ψ σ := by
 intro W pos s R
 show wpAny _ _ (eval e X.env >>= fun v => _) _ _ _
 refine wpAny_bind (wpAny_mono (h W s R) (fun va s_1 yy => ?_) fun _ _ y => y)
 obtain ⟨W1, a, σ1, l_1, ra, R_1, h_1⟩ := yy
 refine wpAny_bind (wpAny_standAt (wpAny_bind (wpAny_holding (wpAny_mono (h_1 W1 va ra s_1 R_1) (fun t s_2 yy => ?_) fun _ _ y => y))))
 obtain ⟨W_2, σ2, l_2, R_2, h_2⟩ := yy
 cases t with
 | true => exact wpAny_mono (h_2.1 rfl W_2 pos s_2 R_2) (fun _ _ y => y.mono (l_1.trans l_2) fun _ _ z => z) fun _ _ y => y
 | false => exact wpAny_pure ⟨W_2, a, σ2, l_1.trans l_2, ra.mono l_2, R_2, h_2.2 rfl⟩
theorem eb_or {e e' : Expr} {es : List Expr} (h : EX G X e (fun a σ1 => TRU G X a (fun t σ2 => (t = true -> Φ a σ2) /\ (t = false -> EB G X .Or (e' :: es) Φ Ψ σ2)) Ψ σ1) Ψ σ) : EB G X .Or (e :: e' :: es) Φ Ψ σ := by
 intro W pos s R
 show wpAny _ _ (eval e X.env >>= fun v => _) _ _ _
 refine wpAny_bind (wpAny_mono (h W s R) (fun va s_1 yy => ?_) fun _ _ y => y)
 obtain ⟨W1, a, σ1, l_1, ra, R_1, h_1⟩ := yy
 refine wpAny_bind (wpAny_standAt (wpAny_bind (wpAny_holding (wpAny_mono (h_1 W1 va ra s_1 R_1) (fun t s_2 yy => ?_) fun _ _ y => y))))
 obtain ⟨W_2, σ2, l_2, R_2, h_2⟩ := yy
 cases t with
 | true => exact wpAny_pure ⟨W_2, a, σ2, l_1.trans l_2, ra.mono l_2, R_2, h_2.1 rfl⟩
 | false => exact wpAny_mono (h_2.2 rfl W_2 pos s_2 R_2) (fun _ _ y => y.mono (l_1.trans l_2) fun _ _ z => z) fun _ _ y => y
noncomputable def noStar : Expr -> Bool
 | .Starred .. => false
 | _ => true
theorem bS {e : Expr} {r : List Expr} {env : Env} (h : noStar e = true) : starEach (e :: r) env = (false, eval e env) :: starEach r env := by
 cases e <;> first | rfl | cases h
theorem eF {q : Pos} {ΦL : List V -> St -> Prop} (h : ΦL [] σ) : AX G X q [] ΦL Ψ σ := fun W s R => spliced_nil ⟨W, [], σ, .rfl, .nil, R, h⟩
theorem bX {q : Pos} {e : Expr} {es : List Expr} {ΦL : List V -> St -> Prop} (hs : noStar e = true) (h : EX G X e (fun a σ1 => AX G X q es (fun ds σ2 => ΦL (a :: ds) σ2) Ψ σ1) Ψ σ) : AX G X q (e :: es) ΦL Ψ σ := by
 intro W s R
 rw [bS hs]
 refine spliced_cons (wpAny_mono (h W s R) (fun va s_1 yy => ?_) fun _ _ y => y)
 obtain ⟨W1, a, σ1, l_1, ra, R_1, h_1⟩ := yy
 refine wpAny_mono (h_1 W1 s_1 R_1) (fun vs s_2 yy => ?_) fun _ _ y => y
 obtain ⟨W_2, ds, σ2, l_2, rs, R_2, h_2⟩ := yy
 exact ⟨W_2, a :: ds, σ2, l_1.trans l_2, .cons (ra.mono l_2) rs, R_2, h_2⟩
theorem jD {es : List Expr} {k : Nat} {pos : Pos} (h : ∀ q, AX G X q es (fun ds σ1 => ds.length <= 1000 /\ Φ (.tup ds) σ1) Ψ σ) : EX G X (.Tuple es k pos) Φ Ψ σ := by
 intro W s R
 refine Tuple_ (wpAny_mono (h pos W s R) (fun vs s_1 yy => ?_) fun _ _ y => y)
 obtain ⟨W1, ds, σ1, l_1, rs, R_1, hl, h_1⟩ := yy
 obtain ⟨r1, l2⟩ := R_1.rel.allocZ { cls := .type "tuple", data := .seq vs.toArray } rfl
 refine wpAny_newObj_type ⟨_, .tup ds, σ1, l_1.trans l2, .tup (.inr (.head _)) (rs.mono l2), ⟨r1, ⟨R_1.sh.gens, R_1.sh.drawn, R_1.sh.os⟩⟩, h_1⟩ ?_
 show vs.toArray.size <= sizeLine
 rw [List.size_toArray, rs.length, sizeLine_eq]; exact Om.hi hl
theorem ex_list {es : List Expr} {pos : Pos} (h : ∀ q, AX G X q es (fun ds σ1 => ds.length <= 1000 /\ Φ (.loc σ1.heap.length) { σ1 with heap := σ1.heap ++ [some (.list ds)] }) Ψ σ) : EX G X (.List es pos) Φ Ψ σ := by
 intro W s R
 refine List_ (wpAny_mono (h pos W s R) (fun vs s_1 yy => ?_) fun _ _ y => y)
 obtain ⟨W1, ds, σ1, l_1, rs, R_1, hl, h_1⟩ := yy
 obtain ⟨r1, l2, rv⟩ := R_1.rel.allocList 0 rs
 refine wpAny_newObj_type ⟨_, _, _, l_1.trans l2, rv, ⟨r1, ⟨R_1.sh.gens, R_1.sh.drawn, R_1.sh.os⟩⟩, h_1⟩ ?_
 show vs.toArray.size <= sizeLine
 rw [List.size_toArray, rs.length, sizeLine_eq]; exact Om.hi hl
theorem iH {e : Expr} (h : EX G X e (fun d σ1 => ∃ i ds, d = .loc i /\ σ1.heap[i]? = some (some (.list ds)) /\ Φ (.lst ds) { σ1 with heap := σ1.heap.set i none }) Ψ σ) : EX G X e Φ Ψ σ := by
 intro W s R
 refine wpAny_mono (h W s R) (fun va s_1 yy => ?_) fun _ _ y => y
 obtain ⟨W1, d, σ1, l_1, ra, R_1, i, ds, e, hi, h_1⟩ := yy
 subst e
 obtain ⟨W', l, r, k⟩ := R_1.rel.freezeList hi
 exact ⟨W', _, _, l_1.trans l, k _ ra, ⟨r, R_1.sh⟩, h_1⟩
theorem lg {e : Expr} (h : EX G X e (fun d σ1 => ∃ i c fs, d = .loc i /\ σ1.heap[i]? = some (some (.inst c fs)) /\ Φ (.obj c fs) { σ1 with heap := σ1.heap.set i none }) Ψ σ) : EX G X e Φ Ψ σ := by
 intro W s R
 refine wpAny_mono (h W s R) (fun va s_1 yy => ?_) fun _ _ y => y
 obtain ⟨W1, d, σ1, l_1, ra, R_1, i, c, fs, e, hi, h_1⟩ := yy
 subst e
 obtain ⟨W', l, r, k⟩ := R_1.rel.freezeInst hi
 exact ⟨W', _, _, l_1.trans l, k _ ra, ⟨r, R_1.sh⟩, h_1⟩
noncomputable def GET (G : Gx) (X : Fx) (o i : V) (Φ : V -> St -> Prop) (Ψ : Ps) (σ : St) : Prop := ∀ W value slice vo vi, RV G.P G.K W vo o -> RV G.P G.K W vi i -> (∃ ops, subscripted slice false vo vi = operate ops (getItem vo vi)) -> TV G X (subscriptTail value slice vo vi) Φ Ψ W σ
theorem gU (slice : Expr) (o i : Value) : ∃ ops, subscripted slice false o i = operate ops (getItem o i) := by
 cases slice with
 | Slice l u st p => cases st <;> exact ⟨_, rfl⟩
 | _ => exact ⟨_, rfl⟩
theorem dL {o i : Expr} {pos : Pos} (h : EX G X o (fun a σ1 => EX G X i (fun b σ2 => GET G X a b Φ Ψ σ2) Ψ σ1) Ψ σ) : EX G X (.Subscript o i pos) Φ Ψ σ := by
 intro W s R
 refine Subscript_ (wpAny_mono (h W s R) (fun va s_1 yy => ?_) fun _ _ y => y)
 obtain ⟨W1, a, σ1, l_1, ra, R_1, h_1⟩ := yy
 refine wpAny_mono (h_1 W1 s_1 R_1) (fun vb s_2 yy => ?_) fun _ _ y => y
 obtain ⟨W_2, b, σ2, l_2, rb, R_2, h_2⟩ := yy
 exact wpAny_mono (h_2 W_2 o i va vb (ra.mono l_2) rb (gU _ _ _) s_2 R_2) (fun _ _ y => y.mono (l_1.trans l_2) fun _ _ z => z) fun _ _ y => y
noncomputable def SLC (G : Gx) (X : Fx) (o : V) (lo hi : Option Int) (Φ : V -> St -> Prop) (Ψ : Ps) (σ : St) : Prop := ∀ W value slice vo l u, RV G.P G.K W vo o -> IsPart l lo -> IsPart u hi -> ∀ s, RelS G X W σ s ->
 subscripted slice false vo (.ref s.heap.objs.size) = operate [.ref s.heap.objs.size, vo] (getItem vo (.ref s.heap.objs.size)) ->
 wpAny G.M X.A (subscriptTail value slice vo (.ref s.heap.objs.size)) (PV G X W Φ) (EE G X Ψ) { s with heap := s.heap.push { cls := .type "slice", data := .fields #[l, u, .none] } }
noncomputable def intOf : V -> Option Int
 | .int i => some i
 | _ => none
theorem eu {v : Value} {d : V} {i : Int} (r : RV G.P G.K W v d) (e : intOf d = some i) : IsPart v (some i) := by
 cases d <;> first | cases e | skip
 cases r.inv; exact .int _ _
theorem ex_slice2 {o l u : Expr} {p pos : Pos} (h : EX G X o (fun a σ1 => EX G X l (fun b σ2 => EX G X u (fun c σ3 => ∃ i j, b = .int i /\ c = .int j /\ SLC G X a (some i) (some j) Φ Ψ σ3) Ψ σ2) Ψ σ1) Ψ σ) :
  EX G X (.Subscript o (.Slice (some l) (some u) none p) pos) Φ Ψ σ := by
 intro W s R
 refine Subscript_ (wpAny_mono (h W s R) (fun va s_1 yy => ?_) fun _ _ y => y)
 obtain ⟨W1, a, σ1, l_1, ra, R_1, h_1⟩ := yy
 refine wpAny_Slice (wpAny_mono (h_1 W1 s_1 R_1) (fun vb s_2 yy => ?_) fun _ _ y => y)
 obtain ⟨W_2, b, σ2, l_2, rb, R_2, h_2⟩ := yy
 refine wpAny_mono (h_2 W_2 s_2 R_2) (fun vc s_3 yy => ?_) fun _ _ y => y
 obtain ⟨W_3, c, σ3, l_3, rc, R_3, i, j, eb, ec, h_3⟩ := yy
 subst eb ec
 refine wpAny_pure ?_
 exact wpAny_mono (h_3 W_3 o _ va vb vc (ra.mono (l_2.trans l_3)) (eu (rb.mono l_3) rfl) (eu rc rfl) s_3 R_3 rfl) (fun _ _ y => y.mono ((l_1.trans l_2).trans l_3) fun _ _ z => z) fun _ _ y => y
theorem ex_slice1 {o l : Expr} {p pos : Pos} (h : EX G X o (fun a σ1 => EX G X l (fun b σ2 => ∃ i, b = .int i /\ SLC G X a (some i) none Φ Ψ σ2) Ψ σ1) Ψ σ) :
  EX G X (.Subscript o (.Slice (some l) none none p) pos) Φ Ψ σ := by
 intro W s R
 refine Subscript_ (wpAny_mono (h W s R) (fun va s_1 yy => ?_) fun _ _ y => y)
 obtain ⟨W1, a, σ1, l_1, ra, R_1, h_1⟩ := yy
 refine wpAny_Slice (wpAny_mono (h_1 W1 s_1 R_1) (fun vb s_2 yy => ?_) fun _ _ y => y)
 obtain ⟨W_2, b, σ2, l_2, rb, R_2, i, eb, h_2⟩ := yy
 subst eb
 refine wpAny_pure (wpAny_pure ?_)
 exact wpAny_mono (h_2 W_2 o _ va vb .none (ra.mono l_2) (eu rb rfl) .none s_2 R_2 rfl) (fun _ _ y => y.mono (l_1.trans l_2) fun _ _ z => z) fun _ _ y => y
theorem ex_slice0 {o u : Expr} {p pos : Pos} (h : EX G X o (fun a σ1 => EX G X u (fun b σ2 => ∃ i, b = .int i /\ SLC G X a none (some i) Φ Ψ σ2) Ψ σ1) Ψ σ) :
  EX G X (.Subscript o (.Slice none (some u) none p) pos) Φ Ψ σ := by
 intro W s R
 refine Subscript_ (wpAny_mono (h W s R) (fun va s_1 yy => ?_) fun _ _ y => y)
 obtain ⟨W1, a, σ1, l_1, ra, R_1, h_1⟩ := yy
 refine wpAny_Slice (wpAny_pure (wpAny_mono (h_1 W1 s_1 R_1) (fun vb s_2 yy => ?_) fun _ _ y => y))
 obtain ⟨W_2, b, σ2, l_2, rb, R_2, i, eb, h_2⟩ := yy
 subst eb
 refine wpAny_pure ?_
 exact wpAny_mono (h_2 W_2 o _ va .none vb (ra.mono l_2) .none (eu rb rfl) s_2 R_2 rfl) (fun _ _ y => y.mono (l_1.trans l_2) fun _ _ z => z) fun _ _ y => y
end
section
variable {G : Gx} {X : Fx} {σ : St} {Ψ : Ps} {Φ : V -> St -> Prop} {ΦB : Bool -> St -> Prop} {ΦF : Fl -> St -> Prop} {W : Wd}
noncomputable def aR (G : Gx) (X : Fx) (f : V) (ds : List V) (Φ : V -> St -> Prop) (Ψ : Ps) (σ : St) : Prop := ∀ W vf vs, RV G.P G.K W vf f -> RVs G.P G.K W vs ds -> TV G X (call vf vs) Φ Ψ W σ
noncomputable def callable : V -> Bool
 | .glob _ => true
 | .meth _ _ => true
 | .val (.builtin _) => true
 | .val (.type _) => true
 | _ => false
theorem keeps_of {f : V} {vf : Value} (r : RV G.P G.K W vf f) (c : callable f = true) (h : Heap) (x : G.K.In h) : ∃ k, (k = Keeper.frame \/ k = Keeper.machine \/ k = Keeper.boundFrame) /\ Looks G.M h (keeperOf vf) k := by
 cases f with
 | glob y => cases r.inv with | glob _ hk => exact keeps_K hk h x
 | meth y z => cases r.inv with | meth _ _ hk => exact keeps_K hk h x
 | val u =>
  cases r.inv
  cases vf with
  | builtin id => exact ⟨.machine, .inr (.inl rfl), Looks.of_pure rfl⟩
  | type T => exact ⟨.machine, .inr (.inl rfl), Looks.of_pure rfl⟩
  | _ => injection c
 | _ => injection c
noncomputable def ag (es : List Expr) : Bool := es.all noStar
theorem dE {env : Env} {q : Pos} : ∀ {es : List Expr}, ag es = true -> (backTo q (starEach es env)).any (·.1) = false
 | [], _ => rfl
 | e :: r, h => by
  simp only [ag, List.all_cons, Bool.and_eq_true] at h
  rw [bS h.1]
  show (false || (backTo q (starEach r env)).any (·.1)) = false
  rw [dE (es := r) h.2]; rfl
theorem cw {q : Pos} {f : V} {vf : Value} {first : List Value} {df : List V} {es : List Expr} {s : Shared} (o : X.Ok G) (r : RV G.P G.K W vf f) (rf : RVs G.P G.K W first df) (c : callable f = true) (hp : ag es = true) (R : RelS G X W σ s)
  (h : AX G X q es (fun ds σ1 => aR G X f (df ++ ds) Φ Ψ σ1) Ψ σ) : wpAny G.M X.A (callWith q vf first (backTo q (starEach es X.env)) []) (PV G X W Φ) (EE G X Ψ) s := by
 refine callWith_of (P := fun h => G.K.In h) (by rw [dE hp]; rfl) (fun h x => keeps_of r c h x) ?_
 have fin : ∀ vs s_1, PVs G X W (fun ds σ1 => aR G X f (df ++ ds) Φ Ψ σ1) vs s_1 -> G.K.In s_1.heap /\ wpAny G.M X.A (call vf (first ++ vs)) (PV G X W Φ) (EE G X Ψ) s_1 := by
  rintro vs s_1 ⟨W1, ds, σ1, l_1, rs, R_1, h_1⟩
  exact ⟨R_1.kin o, wpAny_mono (h_1 W1 vf (first ++ vs) (r.mono l_1) ((rf.mono l_1).append rs) s_1 R_1) (fun _ _ y => y.mono l_1 fun _ _ z => z) fun _ _ y => y⟩
 cases es with
 | nil =>
  have z := h W s R
  unfold evalArgs
  show wpAny _ _ (spliced (backTo q (starEach [] X.env)) >>= _) _ _ _
  refine wpAny_bind (wpAny_mono z (fun vs s_1 y => ?_) fun _ _ y => y)
  refine wpAny_holding ?_
  exact wpAny_bind (wpAny_pure (wpAny_bind (wpAny_pure (wpAny_pure (fin vs s_1 y)))))
 | cons e r =>
  have hs : noStar e = true := by simp only [ag, List.all_cons, Bool.and_eq_true] at hp; exact hp.1
  have z := h W s R
  rw [bS hs] at z ⊢
  exact evalArgs_plain (wpAny_mono z (fun vs s_1 y => fin vs s_1 y) fun _ _ y => y)
theorem cv {x : Str} {p pos : Pos} {es : List Expr} (o : X.Ok G) (hp : ag es = true) (h : EX G X (.Name x p) (fun f σ1 => callable f = true /\ ∀ q, AX G X q es (fun ds σ2 => aR G X f ds Φ Ψ σ2) Ψ σ1) Ψ σ) : EX G X (.Call (.Name x p) es [] pos) Φ Ψ σ := by
 intro W s R
 show wpAny _ _ (eval (.Name x p) X.env >>= fun f => callWith pos f [] (backTo pos (starEach es X.env)) []) _ _ _
 refine seqV (h W s R) fun W1 vf f σ1 s_1 l_1 rf ⟨c, h_1⟩ R_1 => ?_
 exact wpAny_mono (cw (df := []) o rf .nil c hp R_1 (h_1 pos)) (fun _ _ y => y.mono l_1 fun _ _ z => z) fun _ _ y => y
noncomputable def GM (G : Gx) (X : Fx) (a : V) (name : Str) (f : V) (df : List V) (σ : St) : Prop := ∀ W va, RV G.P G.K W va a -> ∀ s, RelS G X W σ s -> ∀ (pl : Sem Bool) (Q : Value × List Value -> Shared -> Prop) E, (∀ vf vs, RV G.P G.K W vf f -> RVs G.P G.K W vs df -> Q (vf, vs) s) -> wpAny G.M X.A (getMethod va name pl) Q E s
theorem bP {o : Expr} {name : Str} {apos pos : Pos} {es : List Expr} (ok : X.Ok G) (hp : ag es = true)
  (he : ∃ pl : Env -> Sem Bool, ∀ env, eval (.Call (.Attribute o name apos) es [] pos) env = (do
   let ov <- eval o env
   standAt apos.atName
   let (f, first) <- holding [ov] (getMethod ov name (pl env))
   callWith pos f first (backTo pos (starEach es env)) (backToKw pos (keywordEach [] env))))
  (h : EX G X o (fun a σ1 => ∃ f df, callable f = true /\ GM G X a name f df σ1 /\ ∀ q, AX G X q es (fun ds σ2 => aR G X f (df ++ ds) Φ Ψ σ2) Ψ σ1) Ψ σ) : EX G X (.Call (.Attribute o name apos) es [] pos) Φ Ψ σ := by
 intro W s R
 obtain ⟨pl, he⟩ := he
 refine methodCall_KW (pl := pl X.env) (wpAny_mono (h W s R) (fun va s_1 yy => ?_) fun _ _ y => y) (he X.env)
 obtain ⟨W1, a, σ1, l_1, ra, R_1, f, df, c, g, h_1⟩ := yy
 refine g W1 va ra s_1 R_1 _ _ _ fun vf vs rf rs => ?_
 exact wpAny_mono (cw ok rf rs c hp R_1 (h_1 pos)) (fun _ _ y => y.mono l_1 fun _ _ z => z) fun _ _ y => y
noncomputable def GA (G : Gx) (X : Fx) (a : V) (name : Str) (Φ : V -> St -> Prop) (Ψ : Ps) (σ : St) : Prop := ∀ W va, RV G.P G.K W va a -> TV G X (getAttr va name true) Φ Ψ W σ
theorem ex_attr {o : Expr} {name : Str} {pos : Pos} (he : ∀ env, eval (.Attribute o name pos) env = (do
   let ov <- eval o env
   standAt pos.atName
   let r <- holding [ov] (getAttr ov name true)
   letTemporaryGo o ov r
   pure r)) (h : EX G X o (fun a σ1 => GA G X a name Φ Ψ σ1) Ψ σ) : EX G X (.Attribute o name pos) Φ Ψ σ := by
 intro W s R
 refine Attribute_any_ (wpAny_mono (h W s R) (fun va s_1 yy => ?_) fun _ _ y => y) (he _)
 obtain ⟨W1, a, σ1, l_1, ra, R_1, h_1⟩ := yy
 exact wpAny_mono (h_1 W1 va ra s_1 R_1) (fun _ _ y => y.mono l_1 fun _ _ z => z) fun _ _ y => y
theorem aa (h : ΦF .next σ) : SSX G X [] ΦF Ψ σ := fun W s R => wpAny_execs_nil ⟨W, _, σ, .rfl, .next, R, h⟩
noncomputable def isNext : Fl -> Bool
 | .next => true
 | _ => false
theorem ay {t : Stmt} {ts : List Stmt} (h : SX G X t (fun f σ1 => match f with | .next => SSX G X ts ΦF Ψ σ1 | f => ΦF f σ1) Ψ σ) : SSX G X (t :: ts) ΦF Ψ σ := by
 intro W s R
 refine wpAny_execs_cons (wpAny_mono (h W s R) (fun vf s_1 yy => ?_) fun _ _ y => y)
 obtain ⟨W1, f, σ1, l_1, rf, R_1, h_1⟩ := yy
 cases rf with
 | next => exact wpAny_mono (h_1 W1 s_1 R_1) (fun _ _ y => y.mono l_1 fun _ _ z => z) fun _ _ y => y
 | brk => exact ⟨W1, _, σ1, l_1, .brk, R_1, h_1⟩
 | cont => exact ⟨W1, _, σ1, l_1, .cont, R_1, h_1⟩
 | ret r => exact ⟨W1, _, σ1, l_1, .ret r, R_1, h_1⟩
noncomputable def notComp : Expr -> Bool
 | .ListComp .. => false
 | .SetComp .. => false
 | .DictComp .. => false
 | _ => true
theorem cE {e : Expr} {t : Option Expr} {n : Nat} {env : Env} (h : notComp e = true) : swapsWith e t n env = pure false := by
 cases e <;> first | rfl | injection h
theorem fu {e : Expr} {pos : Pos} (h : EX G X e (fun d σ1 => ΦF (.ret d) σ1) Ψ σ) : SX G X (.Return (some e) pos) ΦF Ψ σ := fun W s R =>
 wpAny_Return_some (wpAny_mono (h W s R) (fun va s_1 ⟨W1, d, σ1, l_1, ra, R_1, h_1⟩ => ⟨W1, _, σ1, l_1, .ret ra, R_1, h_1⟩) fun _ _ y => y)
theorem sx_break {pos : Pos} (h : ΦF .brk σ) : SX G X (.Break pos) ΦF Ψ σ := fun W s R => wpAny_Break ⟨W, _, σ, .rfl, .brk, R, h⟩
theorem sx_if {t : Expr} {b e : List Stmt} {pos : Pos} (h : TX G X t (fun c σ1 => (c = true -> SSX G X b ΦF Ψ σ1) /\ (c = false -> SSX G X e ΦF Ψ σ1)) Ψ σ) : SX G X (.If t b e pos) ΦF Ψ σ := by
 intro W s R
 refine wpAny_If (wpAny_mono (h W s R) (fun c s_1 yy => ?_) fun _ _ y => y)
 obtain ⟨W1, σ1, l_1, R_1, h_1⟩ := yy
 cases c with
 | true => exact wpAny_mono (h_1.1 rfl W1 s_1 R_1) (fun _ _ y => y.mono l_1 fun _ _ z => z) fun _ _ y => y
 | false => exact wpAny_mono (h_1.2 rfl W1 s_1 R_1) (fun _ _ y => y.mono l_1 fun _ _ z => z) fun _ _ y => y
theorem sx_expr {e : Expr} {pos : Pos} (hi : interactive X.env = false) (hn : notComp e = true) (h : EX G X e (fun _ σ1 => ΦF .next σ1) Ψ σ) : SX G X (.Expr e pos) ΦF Ψ σ := by
 intro W s R
 rw [exec_Expr X.env e pos hi (cE hn)]
 refine wpAny_bind (wpAny_standAt (wpAny_bind (wpAny_mono (h W s R) (fun va s_1 yy => ?_) fun _ _ y => y)))
 obtain ⟨W1, d, σ1, l_1, ra, R_1, h_1⟩ := yy
 exact wpAny_dropValue ⟨W1, _, σ1, l_1, .next, R_1, h_1⟩
theorem fw {x : Str} {d : V} {v : Value} {l' : List (Str × Option V)} {s : Shared} {Q : Unit -> Shared -> Prop} {E : Value -> Shared -> Prop} (ok : X.Ok G) (hf : X.md = .fr) (p : Put x d σ.loc l') (rv : RV G.P G.K W v d) (R : RelS G X W σ s)
  (h : ∀ s', RelS G X W { σ with loc := l' } s' -> Q () s') : wpAny G.M X.A (storeName X.env x v) Q E s := by
 have hE : X.env = X.fenv := by unfold Fx.env; rw [hf]
 have st := R.sta.loc x p.key
 obtain ⟨m, M, r⟩ := R.rel
 rw [hE] at st ⊢
 refine wpAny_storeName_local st.1 r.fr.ns (fun h' hn hs => ?_) (by show (X.scope.kind == .class || (X.scope.kind == .module && _)) = false; rw [ok.kind]; rfl)
 refine h _ ⟨?_, ⟨R.sh.gens, R.sh.drawn, R.sh.os⟩⟩
 have lc := r.lc
 refine ⟨fun y => if y = x then some v else m y, M, r.fr.set hn hs, r.nw.set hs, r.nod, ?_, r.re, ⟨by rw [p.keys]; exact r.st.nod, by rw [p.keys]; exact r.st.loc, r.st.glb⟩, by rw [hf]; trivial⟩
 unfold Lc at lc ⊢
 rw [hf] at lc ⊢
 intro y e hm
 rcases p.of r.st.nod hm with ⟨rfl, rfl⟩ | ⟨hne, hm'⟩
 ·exact ⟨v, by simp, rv⟩
 ·obtain ⟨u, hu, ru⟩ := lc y e hm'
  exact ⟨u, by simp only [if_neg hne]; exact hu, ru⟩
theorem fv {x : Str} {xp pos : Pos} {e : Expr} (ok : X.Ok G) (hf : X.md = .fr) (hn : notComp e = true) (h : EX G X e (fun d σ1 => ∃ l', Put x d σ1.loc l' /\ ΦF .next { σ1 with loc := l' }) Ψ σ) : SX G X (.Assign [.Name x xp] e pos) ΦF Ψ σ := by
 intro W s R
 refine wpAny_Assign_Name (wpAny_mono (h W s R) (fun va s_1 yy => ?_) fun _ _ y => y) (cE hn)
 obtain ⟨W1, d, σ1, l_1, ra, R_1, l', p, h_1⟩ := yy
 exact fw ok hf p ra R_1 fun s' R' => ⟨W1, _, _, l_1, .next, R', h_1⟩
inductive Puts : List Str -> List V -> List (Str × Option V) -> List (Str × Option V) -> Prop
 | nil {l : List (Str × Option V)} : Puts [] [] l l
 | cons {x : Str} {d : V} {xs : List Str} {ds : List V} {l l' l'' : List (Str × Option V)} (p : Put x d l l') (r : Puts xs ds l' l'') : Puts (x :: xs) (d :: ds) l l''
theorem storeAll {f : Str -> Value -> Sem Unit} (hfm : ∀ x v (Q : Unit -> Shared -> Prop) (E : Value -> Shared -> Prop) s, wpAny G.M X.A (storeName X.env x v) Q E s -> wpAny G.M X.A (f x v) Q E s) (ok : X.Ok G) (hf : X.md = .fr) {xs : List Str} {ds : List V} {l l' : List (Str × Option V)} (P : Puts xs ds l l') : ∀ {vs : List Value} {σ : St} {s : Shared} {Q : Unit -> Shared -> Prop} {E : Value -> Shared -> Prop}, σ.loc = l -> RVs G.P G.K W vs ds -> RelS G X W σ s ->
  (∀ s', RelS G X W { σ with loc := l' } s' -> Q () s') -> wpAny G.M X.A (assignInOrder (xs.map f) vs) Q E s := by
 induction P with
 | nil =>
  intro vs σ s Q E e r R k
  cases r.inv
  subst e
  exact wpAny_pure (k s R)
 | cons p P ih =>
  intro vs σ s Q E e r R k
  cases r.inv with
  | cons r rs =>
   subst e
   exact assignInOrder_cons (hfm _ _ _ _ _ (fw ok hf p r R fun s' R' => ih rfl rs R' k))
noncomputable def namesIn : List Expr -> Option (List Str)
 | [] => some []
 | .Name x _ :: r => (namesIn r).map (x :: ·)
 | _ :: _ => none
inductive NmC (es : List Expr) : Expr -> List Str -> Prop
 | mk {x : Str} {q : Pos} {ys : List Str} (h : namesIn es = some ys) : NmC es (.Name x q) (x :: ys)
theorem fD {a : Expr} {es : List Expr} {xs : List Str} (h : namesIn (a :: es) = some xs) : NmC es a xs := by
 have no : ∀ {p : Prop}, Option.none = some xs -> p := fun q => nomatch q
 cases a with
 | Name x q =>
  obtain ⟨ys, hy, e⟩ := Option.map_eq_some_iff.mp (show (namesIn es).map (x :: ·) = some xs from h)
  exact e ▸ .mk hy
 | _ => exact no h
theorem gJ (ok : X.Ok G) (hf : X.md = .fr) : ∀ {es : List Expr} {xs : List Str}, namesIn es = some xs -> ∀ {ds : List V} {l l' : List (Str × Option V)}, Puts xs ds l l' -> ∀ {vs : List Value} {σ : St} {s : Shared} {Q : Unit -> Shared -> Prop} {E : Value -> Shared -> Prop}, σ.loc = l -> RVs G.P G.K W vs ds -> RelS G X W σ s ->
  (∀ s', RelS G X W { σ with loc := l' } s' -> Q () s') -> wpAny G.M X.A (assignInOrder ((assignEach es X.env).map (·.2)) vs) Q E s
 | [], xs, h, ds, l, l', P, vs, σ, s, Q, E, e, r, R, k => by
  obtain rfl := Option.some.inj h
  cases P
  cases r.inv
  subst e
  exact wpAny_pure (k s R)
 | a :: es, xs, h, ds, l, l', P, vs, σ, s, Q, E, e, r, R, k => by
  cases fD h with
  | @mk x q ys hy =>
   cases P with
   | cons p P =>
    cases r.inv with
    | cons r rs =>
     subst e
     show wpAny _ _ (assignInOrder (assign (.Name x q) X.env :: (assignEach es X.env).map (·.2)) _) _ _ _
     exact assignInOrder_cons (assign_Name (fw ok hf p r R fun s' R' => gJ ok hf hy P rfl rs R' k))
theorem dF {env : Env} : ∀ {es : List Expr} {xs : List Str}, namesIn es = some xs -> (assignEach es env).length = xs.length /\ (assignEach es env).findIdx? (·.1) = none
 | [], xs, h => by obtain rfl := Option.some.inj h; exact ⟨rfl, rfl⟩
 | a :: es, xs, h => by
  cases fD h with
  | @mk x q ys hy =>
   obtain ⟨e1, e2⟩ := dF (env := env) hy
   refine ⟨by show (assignEach es env).length + 1 = _; rw [e1, List.length_cons], ?_⟩
   show List.findIdx? _ ((false, _) :: assignEach es env) = none
   rw [List.findIdx?_cons, e2]; rfl
theorem bo (ok : X.Ok G) {s : Shared} (R : RelS G X W σ s) {v : Value} {ds : List V} (r : RV G.P G.K W v (.tup ds)) : ∃ a vs, v = .ref a /\ IsTup s.heap a vs.toArray /\ RVs G.P G.K W vs ds := by
 cases r.inv with
 | tup h hs => exact ⟨_, _, rfl, ⟨_, R.known ok h, rfl, _, rfl⟩, hs⟩
theorem sx_tuple {es : List Expr} {xs : List Str} {k : Nat} {tp pos : Pos} {e : Expr} (ok : X.Ok G) (hf : X.md = .fr) (hh : X.A.handled = none) (hx : namesIn es = some xs) (hs : ∀ env, swapsWithSole [.Tuple es k tp] e pos.line env = pure false) (hw : ∀ env, swappedStores [.Tuple es k tp] e env = pure none)
  (h : EX G X e (fun d σ1 => ∃ ds l', d = .tup ds /\ ds.length = xs.length /\ Puts xs ds σ1.loc l' /\ ΦF .next { σ1 with loc := l' }) Ψ σ) : SX G X (.Assign [.Tuple es k tp] e pos) ΦF Ψ σ := by
 intro W s R
 refine Assign_Tuple (wpAny_mono (h W s R) (fun va s_1 yy => ?_) fun _ _ y => y) (hs _) (hw _)
 obtain ⟨W1, d, σ1, l_1, ra, R_1, ds, l', ed, hl, P, h_1⟩ := yy
 subst ed
 obtain ⟨a, vs, rfl, ht, rs⟩ := bo ok R_1 ra
 obtain ⟨e1, e2⟩ := dF (env := X.env) hx
 refine assign_Tuple_tuple hh ht (by rw [e1, List.size_toArray, rs.length, hl]) e2 fun h' hx' => ?_
 have R_2 : RelS G X W1 σ1 { s_1 with heap := h' } := R_1.grow (tk := s_1.toks) fun b ob q => hx' b ob (Nat.ne_of_lt (Heap.lt_size q)) q
 refine gJ ok hf hx P rfl rs R_2 fun s' R' => ⟨W1, _, _, l_1, .next, R', h_1⟩
theorem sx_swap {es : List Expr} {xs : List Str} {k : Nat} {tp pos : Pos} {e : Expr} (ok : X.Ok G) (hf : X.md = .fr) (hh : X.A.handled = none) (hs : ∀ env, swapsWithSole [.Tuple es k tp] e pos.line env = pure false) (hw : swappedStores [.Tuple es k tp] e X.env = pure (some xs))
  (h : EX G X e (fun d σ1 => ∃ ds l', d = .tup ds /\ ds.length = xs.length /\ Puts xs.reverse ds.reverse σ1.loc l' /\ ΦF .next { σ1 with loc := l' }) Ψ σ) : SX G X (.Assign [.Tuple es k tp] e pos) ΦF Ψ σ := by
 intro W s R
 refine Assign_Tuple_swapped (wpAny_mono (h W s R) (fun va s_1 yy => ?_) fun _ _ y => y) (hs _) hw
 obtain ⟨W1, d, σ1, l_1, ra, R_1, ds, l', ed, hl, P, h_1⟩ := yy
 subst ed
 obtain ⟨a, vs, rfl, ht, rs⟩ := bo ok R_1 ra
 have hn : xs.length = vs.toArray.size := by rw [List.size_toArray, rs.length, hl]
 rw [hn]
 refine unpackItems_tuple hh ht fun h' hx' => ?_
 have R_2 : RelS G X W1 σ1 { s_1 with heap := h' } := R_1.grow (tk := s_1.toks) fun b ob q => hx' b ob (Nat.ne_of_lt (Heap.lt_size q)) q
 refine storeAll (fun x v Q E s z => bindName_ z) ok hf P rfl ?_ R_2 fun s' R' => ⟨W1, _, _, l_1, .next, R', h_1⟩
 rw [List.toList_toArray]
 exact rs.reverse
end
theorem Obj.dict_mapFields (o : Obj) (f) : (o.mapFields f).dict = o.dict := by
 obtain ⟨c, d, dt, sl⟩ := o; cases dt <;> rfl
section
variable {M : Model} {A : Around} {E : Value -> Shared -> Prop} {s : Shared} {B : Heap} {l : List Env} {env : Env} {outer : List Env} {L ea dx : Addr} {cl : Value} {Q : Unit -> Shared -> Prop} {S S' : Option Value -> Prop}
theorem Exn.mono {h : Heap} (x : Exn B l ea cl dx S h) (k : ∀ o, S o -> S' o) : Exn B l ea cl dx S' h := by
 obtain ⟨a, b, c, oe, vs, h1, h2, h3, h4, h5, h6⟩ := x
 refine ⟨a, b, c, oe, vs, h1, h2, h3, h4, h5, ?_⟩
 rcases h6 with ⟨h6, h7⟩ | ⟨T, oT, ts, fl, q1, q2, q3, q4, q5, q6, q7⟩
 ·exact .none (k _ h6) h7
 ·exact .some T oT ts fl q1 q2 q3 q4 q5 q6 (k _ q7)
theorem cV {h : Heap} {T : Addr} {oT : Obj} {ts : Array Value} (hT : h.get? T = some oT) (hd : oT.data = .fields ts) (f : Obj -> Obj) (hl : h.FunFrames B l) : (h.update T f).FunFrames B l :=
 hl.of_keeps fun b o hb hnf => ⟨o, (Heap.get?_update_other _ _ fun q => hnf ts (by rw [<- q, hT] at hb; obtain rfl := Option.some.inj hb; exact hd)).trans hb, rfl⟩
theorem cR {h : Heap} {T : Addr} {oT : Obj} {ts : Array Value} (hT : h.get? T = some oT) (hd : oT.data = .fields ts) (f : Obj -> Obj) : h.UpToSlots (h.update T f) := fun b o hb hnf =>
 ⟨o.slots, (Heap.get?_update_other _ _ fun q => hnf ts (by rw [<- q, hT] at hb; obtain rfl := Option.some.inj hb; exact hd)).trans hb⟩
theorem js {head : Value} {hn : Bool} {oe : Obj} {vs : Array Value} (hfr : A.frames = some (env :: outer)) (hf : env.frame = some L) (hB : B.StaysIn s.heap) (hea : B.get? ea = none) (hl : s.heap.FunFrames B (env :: outer))
  (he : s.heap.get? ea = some oe) (hc : oe.cls = cl) (hdx : oe.dict = some dx) (hd : oe.data = .fields vs) (hsz : 1 < vs.size)
  (h : ∀ h', Exn B (env :: outer) ea cl dx (· = some (rawInt L)) h' -> s.heap.UpToSlots h' -> Q () { s with heap := h' }) :
  wpAny M A (do let a <- frameOf env; let pl <- entryPlaceOf L hn; let b <- EntryCells.newEntry head a .none (rawInt L) .none pl; setField (.ref ea) 1 b) Q E s := by
 have hene : ea ∉ (env :: outer).filterMap (·.frame) := fun hm => by
  obtain ⟨_, o, ho, hnf⟩ := hl.mem hm
  rw [he] at ho; obtain rfl := Option.some.inj ho; exact hnf vs hd
 refine wpAny_bind (wpAny_frameOf_fun hfr hl hf fun h_1 hs_1 => ?_)
 refine wpAny_bind (wpAny_entryPlaceOf fun pl hpl => ?_)
 unfold EntryCells.newEntry newFields
 refine wpAny_bind (wpAny_newObj_type ?_ (hpl.sizeOk5 _ _ _ _ _))
 have he1 : h_1.get? ea = some oe := (hs_1.2.1 ea hene).trans he
 have up1 : s.heap.UpToSlots h_1 := fun b o hb _ => hs_1.2.2 b o hb
 have kb1 : B.StaysIn h_1 := fun b o hbo => (hs_1.2.1 b fun hm => by rw [(hl.mem hm).1] at hbo; injection hbo).trans (hB b o hbo)
 have fl1 : h_1.FunFrames B (env :: outer) := hl.of_keeps fun b o hb _ => let ⟨sl, q⟩ := hs_1.2.2 b o hb; ⟨_, q, rfl⟩
 generalize hob : ({ cls := .type "traceback", dict := none, data := .fields ([head, .ref L, .none, rawInt L, .none] ++ (if pl.isEmpty then List.replicate 6 Value.none else pl)).toArray } : Obj) = ob
 have hobd : ob.data = .fields ([head, .ref L, .none, rawInt L, .none] ++ (if pl.isEmpty then List.replicate 6 Value.none else pl)).toArray := by rw [<- hob]
 have hobf : ob.isFreed = false := by rw [<- hob]; rfl
 have he2 := Heap.get?_push_of_some (h := h_1) ob he1
 refine wpAny_setField he2 hd hsz (h _ ?_ ?_)
 ·have hTe : ea ≠ h_1.objs.size := Nat.ne_of_lt (Heap.lt_size he1)
  refine ⟨fun b o hbo => ?_, hea, cV he2 hd _ (fl1.of_keeps fun b o hb _ => ⟨o, Heap.get?_push_of_some _ hb, rfl⟩), _, _, Heap.get?_update_self _ he2 (Obj.isFreed_of_fields (Obj.data_mapFields hd _)), ?_, ?_, Obj.data_mapFields hd _, ?_, ?_⟩
  ·rw [Heap.get?_update_other _ _ fun q => by rw [<- q, hea] at hbo; cases hbo]
   exact Heap.get?_push_of_some _ (kb1 b o hbo)
  ·rw [Obj.cls_mapFields]; exact hc
  ·rw [Obj.dict_mapFields]; exact hdx
  ·simp [hsz]
  ·refine .some h_1.objs.size ob _ (rawInt L) (by simp [hsz]) ?_ (fun q => hTe q.symm) ?_ hobd (by simp) rfl
   ·exact kb1.fresh
   ·rw [Heap.get?_update_other _ _ hTe]; exact Heap.get?_push_size h_1 hobf
 ·exact (up1.trans (Heap.UpToSlots.of_keeps fun b o hb => Heap.get?_push_of_some ob hb)).trans (cR he2 hd _)
theorem note_ (hfr : A.frames = some (env :: outer)) (hf : env.frame = some L) (x : Exn B (env :: outer) ea cl dx (inL L) s.heap)
  (h : ∀ h', Exn B (env :: outer) ea cl dx (· = some (rawInt L)) h' -> s.heap.UpToSlots h' -> Q () { s with heap := h' }) : wpAny M A (noteFrame (.ref ea) env) Q E s := by
 obtain ⟨hB, hea, hl, oe, vs, he, hc, hdx, hd, hsz, h6⟩ := x
 unfold noteFrame
 simp only [hf]
 rcases h6 with ⟨-, h7⟩ | ⟨T, oT, ts, fl, q1, q2, q3, q4, q5, q6, q7⟩
 ·refine wpAny_bind (wpAny_field he hd h7 ?_)
  rw [if_neg (by decide)]
  exact js hfr hf hB hea hl he hc hdx hd hsz h
 ·refine wpAny_bind (wpAny_field he hd q1 ?_)
  rw [if_pos (show (Value.ref T != Value.none) = true from by simp)]
  refine wpAny_bind (wpAny_field q4 q5 q6 ?_)
  rcases q7 with q7 | q7 | q7
  ·injection q7
  ·obtain rfl := Option.some.inj q7
   rw [if_neg (show ¬ ((Value.none == rawInt L) = true) from by simp [rawInt])]
   refine wpAny_bind (wpAny_setField q4 q5 (Array.getElem?_eq_some_iff.mp q6).1 ?_)
   refine js hfr hf (fun b o hb => (Heap.get?_update_other _ _ fun z => by rw [<- z, q2] at hb; injection hb).trans (hB b o hb)) hea (cV q4 q5 _ hl) ((Heap.get?_update_other _ _ q3).trans he) hc hdx hd hsz fun h' a b => h h' a ((cR q4 q5 _).trans b)
  ·obtain rfl := Option.some.inj q7
   rw [if_pos (show (rawInt L == rawInt L) = true from by simp)]
   refine wpAny_pure ?_
   have := h s.heap ⟨hB, hea, hl, oe, vs, he, hc, hdx, hd, hsz, .some T oT ts _ q1 q2 q3 q4 q5 q6 rfl⟩ (Heap.UpToSlots.refl _)
   exact this
theorem iz {fl : Option Addr} (x : Exn B l ea cl dx (· = some (rawInt L)) s.heap)
  (h : ∀ h', Exn B l ea cl dx (· = some (fl.elim .none fun f => rawInt f)) h' -> s.heap.UpToSlots h' -> Q () { s with heap := h' }) : wpAny M A (setFlight (.ref ea) fl) Q E s := by
 obtain ⟨hB, hea, hl, oe, vs, he, hc, hdx, hd, hsz, h6⟩ := x
 rcases h6 with ⟨q, -⟩ | ⟨T, oT, ts, f, q1, q2, q3, q4, q5, q6, q7⟩
 ·injection q
 ·unfold setFlight
  refine wpAny_bind (wpAny_field he hd q1 ?_)
  rw [if_pos (show (Value.ref T != Value.none) = true from by simp)]
  have h3 := (Array.getElem?_eq_some_iff.mp q6).1
  refine wpAny_setField q4 q5 h3 (h _ ?_ (cR q4 q5 _))
  refine ⟨fun b o hb => (Heap.get?_update_other _ _ fun z => by rw [<- z, q2] at hb; injection hb).trans (hB b o hb), hea, cV q4 q5 _ hl, oe, vs, (Heap.get?_update_other _ _ q3).trans he, hc, hdx, hd, hsz, .some T _ _ _ q1 q2 q3 (Heap.get?_update_self _ q4 (Obj.isFreed_of_fields (Obj.data_mapFields q5 _))) (Obj.data_mapFields q5 _) ?_ rfl⟩
  simp [h3]
theorem leave_ (hfr : A.frames = some (env :: outer)) (hf : env.frame = some L) (x : Exn B (env :: outer) ea cl dx (inL L) s.heap)
  (h : ∀ h', Exn B outer ea cl dx (· = some .none) h' -> s.heap.UpToSlots h' -> Q () { s with heap := h' }) : wpAny M A (leaving env (.ref ea)) Q E s := by
 unfold leaving
 refine wpAny_bind (note_ hfr hf x fun h_1 x_1 u_1 => ?_)
 refine iz (fl := none) x_1 fun h_2 x_2 u_2 => ?_
 obtain ⟨a, b, ⟨_, _, c⟩, d1, d2, d3, d4, d5, d6, d7, d8⟩ := x_2
 exact h h_2 ⟨a, b, c, d1, d2, d3, d4, d5, d6, d7, d8⟩ (u_1.trans u_2)
theorem kW {Q : Value -> Shared -> Prop} (hfr : A.frames = some (env :: outer)) (hf : env.frame = some L) (x : Exn B (env :: outer) ea cl dx (inL L) s.heap)
  (h : ∀ h', Exn B (env :: outer) ea cl dx (inL L) h' -> s.heap.UpToSlots h' -> Q (.ref ea) { s with heap := h' }) : notedBy M A env (cameBackBy M A env Q) (.ref ea) s := by
 refine note_ hfr hf x fun h_1 x_1 u_1 => ?_
 have y := x_1
 obtain ⟨hB, hea, hl, oe, vs, he, hc, hdx, hd, hsz, h6⟩ := y
 rcases h6 with ⟨q, -⟩ | ⟨T, oT, ts, f, q1, q2, q3, q4, q5, q6, q7⟩
 ·injection q
 ·refine wpAny_bind (wpAny_field he hd q1 ?_)
  rw [if_neg (show ¬ ((Value.ref T == Value.none) = true) from by simp)]
  rw [hf]
  refine iz x_1 fun h_2 x_2 u_2 => h h_2 (x_2.mono fun o q => ?_) (u_1.trans u_2)
  rw [q]; exact .inr (.inr rfl)
end
noncomputable def retV : Fl -> Option V
 | .ret d => some d
 | .next => some .none
 | _ => none
inductive CallPost (σ : St) (Φ : V -> St -> Prop) (fl : Fl) (σ' : St) : Prop
 | mk (d : V) (h : retV fl = some d) (k : Nat) (hk : σ.heap.length <= k) (hc : af k (σ'.heap.take k) = true) (hd : d.closed k = true) (hp : Φ d { σ with heap := σ'.heap.take k })
inductive FnAt (K : Frag) (f : Addr) (x qual : Str) (params : Arguments) (body : List Stmt) (scope : Scope) (dV : Value) : Prop
 | mk (oc : Value) (od : Option Addr) (osl : Array (Option Value)) (kV doc pm : Value) (an : Option Addr) (cdv ct : Value) (h : K.lookup f = some ⟨oc, od, .func (fnOf x qual params body scope dV kV doc pm an cdv ct), osl⟩) (hc : codeIn K cdv qual = true)
noncomputable def mkLoc : List Str -> List V -> List Str -> List (Str × Option V)
 | x :: xs, d :: ds, r => (x, some d) :: mkLoc xs ds r
 | _, _, r => r.map fun x => (x, none)
theorem mkLoc_nil {ds : List V} {r : List Str} : mkLoc [] ds r = r.map fun x => (x, none) := by cases ds <;> rfl
theorem gK {r : List Str} {y : Str} {d : V} (h : (y, some d) ∈ r.map fun x => (x, (none : Option V))) : False := by
 obtain ⟨x, _, q⟩ := List.mem_map.mp h
 cases q
section
variable {P : Params} {K : Frag} {W : Wd}
theorem mkLoc_look : ∀ {xs : List Str} {ds : List V} {vs : List Value} {r : List Str}, RVs P K W vs ds -> xs.Nodup -> ∀ {y : Str} {d : V}, (y, some d) ∈ mkLoc xs ds r -> y ∈ xs /\ ∃ v, (xs.zip vs).reverse.lookup y = some v /\ RV P K W v d := by
 intro xs
 induction xs with
 | nil => intro ds vs r _ _ y d h; rw [mkLoc_nil] at h; exact (gK h).elim
 | cons x xs ih =>
  intro ds vs r R n y d h
  cases R with
  | nil => exact (gK h).elim
  | @cons v _ vs ds a as =>
  rw [List.nodup_cons] at n
  rw [List.zip_cons_cons, List.reverse_cons]
  rcases List.mem_cons.mp h with q | h'
  ·cases q
   refine ⟨.head _, v, ?_, a⟩
   rw [List.lookup_append]
   have : (xs.zip vs).reverse.lookup x = none := by
    rw [List.lookup_eq_none_iff]
    rintro ⟨p1, p2⟩ hp
    have := (List.of_mem_zip (List.mem_reverse.mp hp)).1
    simp only [bne_iff_ne, ne_eq]
    intro q
    exact n.1 (q ▸ this)
   rw [this]
   simp
  ·obtain ⟨m, u, hu, ru⟩ := ih as n.2 h'
   exact ⟨.tail _ m, u, by rw [List.lookup_append, hu]; rfl, ru⟩
end
theorem mkLoc_keys : ∀ {xs : List Str} {ds : List V} {r : List Str}, xs.length = ds.length -> (mkLoc xs ds r).map (·.1) = xs ++ r
 | [], [], r, _ => by show (r.map _).map _ = _; rw [List.map_map]; exact List.map_id _
 | [], _ :: _, r, h => by injection h
 | _ :: _, [], r, h => by injection h
 | x :: xs, d :: ds, r, h => by
  show x :: (mkLoc xs ds r).map (·.1) = _
  rw [mkLoc_keys (Nat.succ.inj h)]; rfl
set_option tactic.hygienic true in
theorem iO {P : Params} {K : Frag} {W : Wd} : ∀ {v : Value} {d : V}, RV P K W v d -> d.closed W.α.length = true := by
 intro v d h
 refine RV.rec (motive_1 := fun v d _ => d.closed W.α.length = true) (motive_2 := fun vs ds _ => V.closeds W.α.length ds = true) (motive_3 := fun vs ds _ => V.closedk W.α.length ds = true) (motive_4 := fun vs ds _ => V.closedf W.α.length ds = true)
  ?_ ?_ ?_ ?_ ?_ ?_ ?_ ?_ ?_ ?_ ?_ ?_ ?_ ?_ ?_ ?_ ?_ ?_ ?_ ?_ ?_ h <;> intros <;> with_unfolding_all first | rfl | assumption | exact Bool.and_eq_true_iff.mpr ⟨by assumption, by assumption⟩ | skip
 rename_i e
 exact decide_eq_true (List.getElem?_eq_some_iff.mp e).1
theorem lx {P : Params} {K : Frag} {W : Wd} {vs : List Value} {ds : List V} (h : RVs P K W vs ds) : V.closeds W.α.length ds = true := by
 induction ds generalizing vs with
 | nil => rfl
 | cons d ds ih => cases h.inv with
  | cons h hs => rw [V.closeds, iO h, ih hs]; rfl
theorem ly {P : Params} {K : Frag} {W : Wd} {vs : List DictEntry} {ds : List (Str × V)} (h : RFs P K W vs ds) : V.closedf W.α.length ds = true := by
 induction ds generalizing vs with
 | nil => rfl
 | cons d ds ih => cases h with
  | cons h hs => rw [V.closedf, iO h, ih hs]; rfl
theorem jy {P : Params} {K : Frag} {W : Wd} {as : List Addr} {H : List (Option MO)} {M : List (Addr × Obj)} (h : Rend P K W as H M) : af W.α.length H = true := by
 induction h with
 | nil => rfl
 | dead _ ih => exact ih
 | ob x _ ih =>
  refine Bool.and_eq_true_iff.mpr ⟨?_, ih⟩
  cases x with
  | list hs => exact lx hs
  | inst hc hs => exact ly hs
section
variable {G : Gx} {X : Fx} {σ : St} {W : Wd} {Ψ : Ps} {s : Shared}
theorem imm_of {m : Str -> Option Value} {loc : List (Str × Option V)} (hf : X.md = .fr) (h : Lc G X W m loc) : ∀ x d, (x, some d) ∈ loc -> match d with
   | .none => m x = some .none
   | .bool b => m x = some (.bool b)
   | .int i => ∃ t, m x = some (.int i t)
   | .bytes b => ∃ t, m x = some (.bytes b.toArray t)
   | _ => True := by
 intro x d hm
 unfold Lc at h
 rw [hf] at h
 obtain ⟨v, e, r⟩ := h x d hm
 split
 ·cases r.inv; exact e
 ·cases r.inv; exact e
 ·cases r.inv with
  | int t => exact ⟨t, e⟩
 ·cases r.inv with
  | bytes b t => exact ⟨t, e⟩
 ·trivial
theorem eQ {A' : Around} {rm : Nat} {R : Result -> Shared -> Prop} {f : Addr} {x qual : Str} {params : Arguments} {body : List Stmt} {scope : Scope} {dV : Value} {vs : List Value} {kw : List (Str × Value)} {ds : List V} {names others : List Str} {glb : List (Str × V)} {Φ : V -> St -> Prop}
  (o : X.Ok G) (hA : A'.frames = some (frs X)) (hd : A'.depth + 1 + rm < recursionLimit) (hu : A'.units + 3 + 8 * rm < cLine) (hfn : FnAt G.K f x qual params body scope dV)
  (hco : scope.isCoroutine = false) (hgen : scope.isGenerator = false) (hk : scope.kind = .function) (hcell : (scope.names.all fun x => x.2 != .cell) = true)
  (R₀ : RelS G X W σ s) (rs : RVs G.P G.K W vs ds) (hlen : names.length = ds.length) (hnd : (names ++ others).Nodup)
  (hloc : ((names ++ others).all fun y => scope.names.lookup y == some .local && !(y == ("__debug__" : Str))) = true)
  (hbind : ∀ kV doc pm an cdv ct, BindsTo s (fnOf x qual params body scope dV kV doc pm an cdv ct) ⟨vs, kw⟩ (names.zip vs))
  (hg : ∀ p ∈ glb, (scope.names.lookup p.1 = some .globalImplicit /\ (p.1 == ("__debug__" : Str)) = false) /\ Gl G p.1 p.2)
  (hfr : X.md = .fr \/ ∀ a, ¬ Ψ a σ.loc)
  (hbody : ∀ X', X'.Ok G -> X'.md = .fr -> X'.A.handled = A'.handled -> X'.room = rm -> X'.scope = scope -> af σ.heap.length σ.heap = true -> SSX G X' body (CallPost σ Φ) (fun a _ => Ψ a σ.loc) ⟨mkLoc names ds others, glb, σ.heap⟩)
  (hR : ∀ v d W1 σ1 s_1, W.le W1 -> RV G.P G.K W1 v d -> RelS G X W1 σ1 s_1 -> Φ d σ1 -> R (.ok (.ret v)) s_1) (hE : ∀ e s_1, EE G X Ψ e s_1 -> R (.error e) s_1) :
  codeAny G.M A' (.call (.ref f) ⟨vs, kw⟩) R s := by
 obtain ⟨oc, od, osl, kV, doc, pm, an, cdv, ct, ho, hcd⟩ := hfn
 have hS := R₀.sh
 obtain ⟨⟨m, M, Q⟩, _⟩ := R₀
 have hll : ∀ y ∈ names ++ others, scope.names.lookup y = some .local /\ (y == ("__debug__" : Str)) = false := fun y hy => by
  have := List.all_eq_true.mp hloc y hy
  simp only [Bool.and_eq_true, beq_iff_eq, Bool.not_eq_true'] at this
  exact this
 refine code_def (A₀ := X.A₀) (base := G.base) (env := X.fenv) (outer := X.outer) o.below Q.fr o.kin Q.nw o.top hA rfl o.kind ho hcd ((Om.q 3 0 (.i (.t (.a (.a .x2 .k1) .x1) .x0) (.t .x2 .x0))) _ _ _ hd) (hbind _ _ _ _ _ _) (fun y hy => (hll y.1 (List.mem_append_left _ (List.of_mem_zip hy).1)).1) ?_ hco hgen hk (fun y hy q => by
  have := List.all_eq_true.mp hcell y hy
  rw [q] at this; injection this)
 intro g L' h_1 FG F' N' B' Kg Tg
 let X' : Fx := ⟨A', A'.deeper (envOf qual scope L' f cdv), frs X, g, L', f, qual, scope, cdv, rm, .fr, X.pins⟩
 have o' : X'.Ok G := ⟨o.g, B', hk, Around.frames_deeper hA, by show A'.depth + 1 + rm < _; exact hd, by show A'.units + 3 + 8 * rm < _; exact hu, hk, rfl, rfl⟩
 have keysE := mkLoc_keys (r := others) hlen
 have S' : RelS G X' W ⟨mkLoc names ds others, glb, σ.heap⟩ { s with heap := h_1, toks := s.toks + (names.zip vs).length } := by
  refine ⟨⟨_, M, ⟨F', N', Q.nod, ?_, Q.re, ⟨?_, ?_, ?_⟩, trivial⟩⟩, ⟨hS.gens, hS.drawn, hS.os⟩⟩
  ·intro y d hm
   exact (mkLoc_look rs (List.nodup_append.mp hnd).1 hm).2
  ·rw [keysE]; exact hnd
  ·intro y hy
   rw [keysE] at hy
   exact hll y hy
  ·intro p hp
   exact ⟨(hg p hp).1.1, (hg p hp).1.2, (hg p hp).2⟩
 refine wpAny_mono (hbody X' o' rfl rfl rfl rfl (by have := jy Q.re; rw [Q.re.len] at this; exact this) W _ S') (fun fl s' y => ?_) fun e s' y => ?_
 ·obtain ⟨W', fd, σ', l', rf, R', d, hr, k, hk_1, hk_2, hk3, hΦ⟩ := y
  have rv : ∀ u, (∀ v, fl = .ret v -> u = v) -> ((∀ v, fl ≠ .ret v) -> u = .none) -> RV G.P G.K W' u d := by
   intro u h1 h2
   cases rf with
   | next => obtain rfl := Option.some.inj hr; rw [h2 fun v q => by cases q]; exact .none
   | brk => injection hr
   | cont => injection hr
   | ret h => obtain rfl := Option.some.inj hr; rw [h1 _ rfl]; exact h
  have hS' := R'.sh
  obtain ⟨⟨m', M', Q'⟩, _⟩ := R'
  refine leaveK_ Q'.fr Q'.nw fun FF NN => ?_
  obtain ⟨M'', re, sub⟩ := Q'.re.cut k k hk_2
  have sub' : (X.pins ++ (M'' ++ W'.Z)).Sublist (X.pins ++ (M' ++ W'.Z)) := List.Sublist.append (List.Sublist.refl _) (List.Sublist.append sub (List.Sublist.refl _))
  have len : W.α.length <= k := by rw [Q.re.len]; exact hk_1
  have le : W.le (W'.cut k) := ⟨l'.z, fun i a e => by
   show (W'.α.take k)[i]? = _
   rw [List.getElem?_take_of_lt (Nat.lt_of_lt_of_le (List.getElem?_eq_some_iff.mp e).1 len)]
   exact l'.a i a e⟩
  refine hR _ d (W'.cut k) { σ with heap := σ'.heap.take k } s' le ((rv _ (fun v q => by subst q; rfl) fun q => by cases fl with | ret v => exact absurd rfl (q v) | _ => rfl).cut k hk3) ⟨⟨m, M'', ⟨FF, fun p hp => NN p (sub'.subset hp), (sub'.map _).nodup Q'.nod, Q.lc.mono le, re, ⟨Q.st.nod, Q.st.loc, Q.st.glb⟩, Q.cp⟩⟩, hS'⟩ hΦ
 ·obtain ⟨a, loc', hΨ, ⟨ea, g', m', B, C, dx, es, n, t, rfl, F1, hl1, u_1, sb, hb, hC, hdx, hat, hn0, ex⟩, hsh⟩ := y
  refine leave_ (Around.frames_deeper hA) rfl ex fun h' ex' u' => hE _ _ ⟨a, σ.loc, hΨ, ?_, ⟨hsh.gens, hsh.drawn, hsh.os⟩⟩
  rcases hfr with hfr | hfr
  ·refine ⟨ea, g, m, B, C, dx, es, n, t, rfl, FG, imm_of hfr Q.lc, ?_, sb, fun b ob e hn => hb b ob (F1.keep b ob e) fun q => ?_, hC, hdx, hat, ⟨fun q => ?_, ?_⟩, ex'.mono fun o q => ?_⟩
   ·exact ((Heap.UpToSlots.of_keeps F1.keep).trans u_1).trans u'
   ·obtain ⟨env, he, hf⟩ := List.mem_filterMap.mp q
    rcases List.mem_cons.mp he with rfl | he
    ·have : L' = b := Option.some.inj hf
     subst this
     exact Nat.lt_irrefl _ (Nat.lt_of_lt_of_le (Heap.lt_size e) F1.above)
    ·exact hn (List.mem_filterMap.mpr ⟨env, he, hf⟩)
   ·obtain ⟨oL, es', ep, hL, _⟩ := FG.ns
    have h0 : g.get? dx = none := hn0.2
    rw [q, hL] at h0; injection h0
   ·have h0 : g.get? dx = none := hn0.2
    cases e : X.h₀.get? dx with
    | none => rfl
    | some ob => rw [FG.keep _ _ e] at h0; injection h0
   ·rw [q]; exact .inr (.inl rfl)
  ·exact (hfr a hΨ).elim
end
inductive FnG (G : Gx) (x : Str) (D : Df) : Prop
 | mk (f : Addr) (h : nsIn G.K mainGlobals x = some (some (.ref f))) (ha : FnAt G.K f x x D.params D.body D.scope .none) (hk : keepIn G.K (.ref f) = true)
inductive MthG (G : Gx) (c m q : Str) (D : Df) : Prop
 | mk (C f : Addr) (h : nsIn G.K mainGlobals c = some (some (.ref C))) (hf : findIn G.K (.ref C) m = some (some (.ref f))) (ha : FnAt G.K f m q D.params D.body D.scope .none) (hk : keepIn G.K (.ref f) = true) (hi : isFn G.K (.ref f) = true)
theorem av {G : Gx} {x : Str} {D : Df} (h : FnG G x D) : Gl G x (.glob x) := by
 obtain ⟨f, h1, h2, h3⟩ := h
 exact ⟨_, .inl h1, fun W => .glob h1 h3⟩
theorem aV {G : Gx} {x : Str} {v : Value} (h1 : nsIn G.K mainGlobals x = some none) (h2 : x ≠ ("__name__" : Str)) (h3 : bootBuiltins x = some v) : Gl G x (.val v) :=
 ⟨_, .inr (.inl ⟨h1, h2, h3⟩), fun W => .val v⟩
section
variable {G : Gx} {X : Fx} {σ : St} {Ψ : Ps} {Φ : V -> St -> Prop} {ΦB : Bool -> St -> Prop} {W : Wd}
noncomputable def cF (S : Scope) : Bool := !S.isCoroutine && !S.isGenerator && S.kind == .function && S.names.all fun x => x.2 != .cell
noncomputable def okLoc (S : Scope) (l : List Str) : Bool := l.all fun y => S.names.lookup y == some .local && !(y == ("__debug__" : Str))
noncomputable def fR (S : Scope) (l : List (Str × V)) : Bool := l.all fun p => S.names.lookup p.1 == some .globalImplicit && !(p.1 == ("__debug__" : Str))
inductive Gls (G : Gx) : List (Str × V) -> Prop
 | nil : Gls G []
 | cons {x : Str} {d : V} {l : List (Str × V)} (h : Gl G x d) (r : Gls G l) : Gls G ((x, d) :: l)
theorem Gls.of {l : List (Str × V)} (h : Gls G l) : ∀ p ∈ l, Gl G p.1 p.2 := by
 induction h with
 | nil => intro p hp; cases hp
 | cons h r ih =>
  intro p hp
  rcases List.mem_cons.mp hp with rfl | hp
  ·exact h
  ·exact ih p hp
theorem fE {S : Scope} {l : List (Str × V)} (h : fR S l = true) (g : Gls G l) : ∀ p ∈ l, (S.names.lookup p.1 = some .globalImplicit /\ (p.1 == ("__debug__" : Str)) = false) /\ Gl G p.1 p.2 := fun p hp => by
 have := List.all_eq_true.mp h p hp
 simp only [Bool.and_eq_true, beq_iff_eq, Bool.not_eq_true'] at this
 exact ⟨this, g.of p hp⟩
structure DefOk (x q : Str) (D : Df) (names others : List Str) (n : Nat) (glb : List (Str × V)) : Prop where
 hp : cF D.scope = true
 hb : ∀ kV doc pm an cdv ct vs, List.length vs = names.length -> bindArgs (fnOf x q D.params D.body D.scope .none kV doc pm an cdv ct) ⟨vs, []⟩ = pure (names.zip vs)
 hlen : names.length = n
 hnd : (names ++ others).Nodup
 hloc : okLoc D.scope (names ++ others) = true
 hgk : fR D.scope glb = true
theorem dN {x : Str} {D : Df} {names others : List Str} {ds : List V} {glb : List (Str × V)} (o : X.Ok G) (hr : 1 <= X.room) (fn : FnG G x D) (hfr : X.md = .fr \/ ∀ a, ¬ Ψ a σ.loc)
  (dk : DefOk x x D names others ds.length glb) (hg : Gls G glb)
  (hbody : ∀ X', X'.Ok G -> X'.md = .fr -> X'.A.handled = X.A.handled -> X'.room = X.room - 1 -> X'.scope = D.scope -> af σ.heap.length σ.heap = true -> SSX G X' D.body (CallPost σ Φ) (fun a _ => Ψ a σ.loc) ⟨mkLoc names ds others, glb, σ.heap⟩) :
  aR G X (.glob x) ds Φ Ψ σ := by
 obtain ⟨hp, hb, hlen, hnd, hloc, hgk⟩ := dk
 intro W vf vs rf rs s R
 cases rf.inv with
 | glob h hk =>
  obtain ⟨f, h1, h2, h3⟩ := fn
  rw [h1] at h; cases h
  simp only [cF, Bool.and_eq_true, Bool.not_eq_true', beq_iff_eq] at hp
  refine wpAny_call (eQ (rm := X.room - 1) (Φ := Φ) o o.frames (by have := o.depth; exact (Om.q 4 0 .f50) _ _ _ _ hr this (Om.sbo _ _)) (by have := o.units; exact (Om.q 4 0 .f51) _ _ _ _ hr this (Om.sbo _ _)) h2 hp.1.1.1 hp.1.1.2 hp.1.2 hp.2 R rs hlen hnd hloc
   (fun kV doc pm an cdv ct => .of_eq (hb kV doc pm an cdv ct vs (by rw [rs.length, hlen]))) (fE hgk hg) hfr hbody ?_ ?_)
  ·intro v d W1 σ1 s_1 l_1 r_1 R_1 hΦ
   exact ⟨W1, d, σ1, l_1, r_1, R_1, hΦ⟩
  ·intro e s_1 h; exact h
theorem iT {a b : Int} (h : Φ (.int (a + b)) σ) : BIN G X .Add (.int a) (.int b) Φ Ψ σ := by
 intro W x y rx ry s R
 cases rx.inv; cases ry.inv
 exact P.add_int ⟨W, _, σ, .rfl, .int _ _, R.tok, h⟩
theorem bin_sub {a b : Int} (h : Φ (.int (a - b)) σ) : BIN G X .Sub (.int a) (.int b) Φ Ψ σ := by
 intro W x y rx ry s R
 cases rx.inv; cases ry.inv
 exact P.sub_int ⟨W, _, σ, .rfl, .int _ _, R.tok, h⟩
theorem iS {a b : Int} (hm : IntMulOk a b) (h : Φ (.int (a * b)) σ) : BIN G X .Mult (.int a) (.int b) Φ Ψ σ := by
 intro W x y rx ry s R
 cases rx.inv; cases ry.inv
 exact P.mul_int ⟨W, _, σ, .rfl, .int _ _, R.tok, h⟩ hm
theorem ff {a b : Int} (hb : b ≠ 0) (h : Φ (.int (a.fmod b)) σ) : BIN G X .Mod (.int a) (.int b) Φ Ψ σ := by
 intro W x y rx ry s R
 cases rx.inv; cases ry.inv
 exact PyProof.Rows.mod_int hb ⟨W, _, σ, .rfl, .int _ _, R.tok, h⟩
theorem un_neg {a : Int} (h : Φ (.int (-a)) σ) : UN G X .USub (.int a) Φ Ψ σ := by
 intro W x rx s R
 cases rx.inv
 exact P.neg_int ⟨W, _, σ, .rfl, .int _ _, R.tok, h⟩
theorem cmp_eq {a b : Int} (h : Φ (.bool (decide (a = b))) σ) : CMP G X .Eq (.int a) (.int b) Φ Ψ σ := by
 intro W x y rx ry s R
 cases rx.inv; cases ry.inv
 exact P.eq_int ⟨W, _, σ, .rfl, .bool _, R, h⟩
theorem cmp_ne {a b : Int} (h : Φ (.bool (decide (a ≠ b))) σ) : CMP G X .NotEq (.int a) (.int b) Φ Ψ σ := by
 intro W x y rx ry s R
 cases rx.inv; cases ry.inv
 refine P.ne_int ⟨W, _, σ, .rfl, .bool _, R, ?_⟩
 simpa [bne, BEq.beq] using h
theorem cmp_lt {a b : Int} (h : Φ (.bool (decide (a < b))) σ) : CMP G X .Lt (.int a) (.int b) Φ Ψ σ := by
 intro W x y rx ry s R
 cases rx.inv; cases ry.inv
 exact P.lt_int ⟨W, _, σ, .rfl, .bool _, R, h⟩
theorem cmp_le {a b : Int} (h : Φ (.bool (decide (a <= b))) σ) : CMP G X .LtE (.int a) (.int b) Φ Ψ σ := by
 intro W x y rx ry s R
 cases rx.inv; cases ry.inv
 exact P.le_int ⟨W, _, σ, .rfl, .bool _, R, h⟩
theorem cmp_gt {a b : Int} (h : Φ (.bool (decide (b < a))) σ) : CMP G X .Gt (.int a) (.int b) Φ Ψ σ := by
 intro W x y rx ry s R
 cases rx.inv; cases ry.inv
 exact P.gt_int ⟨W, _, σ, .rfl, .bool _, R, h⟩
theorem cmp_ge {a b : Int} (h : Φ (.bool (decide (b <= a))) σ) : CMP G X .GtE (.int a) (.int b) Φ Ψ σ := by
 intro W x y rx ry s R
 cases rx.inv; cases ry.inv
 exact P.ge_int ⟨W, _, σ, .rfl, .bool _, R, h⟩
theorem bf {b : Bool} (h : ΦB b σ) : TRU G X (.bool b) ΦB Ψ σ := by
 intro W x rx s R
 cases rx.inv
 exact wpAny_truthy_bool ⟨W, σ, .rfl, R, h⟩
theorem gw {σ' : St} {d : V} (hc : d.closed σ.heap.length = true) (hh : af σ.heap.length σ.heap = true) (e : σ'.heap = σ.heap) (h : Φ d σ) : CallPost σ Φ (.ret d) σ' := by
 refine ⟨d, rfl, σ.heap.length, Nat.le_refl _, ?_, hc, ?_⟩
 ·rw [e, List.take_length]; exact hh
 ·rw [e, List.take_length]; exact h
end
noncomputable def items : V -> Option (List V)
 | .lst l => some l
 | .tup l => some l
 | .str s => some (s.map fun c => .str [c])
 | .bytes b => some (b.map fun c => .int c.toNat)
 | .rng a b => some ((List.range (b - a).toNat).map fun i => .int (a + (i : Nat)))
 | _ => none
noncomputable def iterOk : V -> Bool
 | .rng a b => Builtin.Range.small a b 1
 | _ => true
section
variable {G : Gx} {X : Fx} {σ : St} {Ψ : Ps} {Φ : V -> St -> Prop} {ΦB : Bool -> St -> Prop} {ΦF : Fl -> St -> Prop} {W : Wd} {s : Shared}
noncomputable def IterOf (G : Gx) (W : Wd) (s : Shared) (ds : List V) (oI : Obj) (I : Addr) : Prop :=
 ∃ fp P St, oI.isFreed = false /\ (∀ A', A'.handled = none -> Walks G.prog G.w A' I fp [I] ds.length P St) /\ St 0 (s.heap.push oI) /\ (∀ i h, St i h -> ∃ o, h.get? I = some o) /\
  (∀ i h h' o, St i h -> h.get? I = some o -> h'.get? I = some o -> (∀ b ob, Kn G.K W b ob -> h'.get? b = some ob) -> St i h') /\ (∀ b ∈ fp, b < (s.heap.push oI).objs.size) /\
  (∀ i v, i < ds.length -> P i v -> ∃ d, ds[i]? = some d /\ RV G.P G.K W v d)
theorem iter_ {v : Value} {d : V} {ds : List V} {Q : Value -> Shared -> Prop} {E : Value -> Shared -> Prop} (o : X.Ok G) (R : RelS G X W σ s) (rv : RV G.P G.K W v d) (hi : items d = some ds) (hk : iterOk d = true)
  (k : ∀ oI, IterOf G W s ds oI s.heap.objs.size -> Q (.ref s.heap.objs.size) { s with heap := s.heap.push oI }) : wpAny G.M X.A (pyIter v) Q E s := by
 have one : ∀ {b : Addr} {oI : Obj}, b ∈ [s.heap.objs.size] -> b < (s.heap.push oI).objs.size := fun hb => by
  rw [List.mem_singleton.mp hb, Heap.size_push]; exact Nat.lt_succ_self _
 cases rv with
 | @tup a vs n sl ds' h hs =>
  cases hi
  have hL : s.heap.IsTuple a vs.toArray := ⟨_, R.known o h, rfl, _, rfl⟩
  have hlt : a < s.heap.objs.size := Heap.lt_size (R.known o h)
  refine wpAny_pyIter_tuple hL (k _ ⟨[s.heap.objs.size, a], fun i v => vs.toArray[i]? = some v, fun i h => h.IsTupleIter s.heap.objs.size a i /\ h.IsTuple a vs.toArray, rfl, fun A' hA => ?_, ⟨⟨_, Heap.get?_push_size _ rfl, rfl, rfl⟩, _, Heap.get?_push_of_some _ (R.known o h), rfl, _, rfl⟩, fun i h st => by obtain ⟨o, e, _⟩ := st.1; exact ⟨o, e⟩, fun i h_1 h_2 ob st e e' kn => ⟨?_, _, kn _ _ h, rfl, _, rfl⟩, ?_, ?_⟩)
  ·rw [show ds.length = vs.toArray.size from by simp [hs.length]]
   exact Walks.tuple (prog := G.prog) (w := G.w) hA s.heap.objs.size a (Nat.ne_of_lt hlt) vs.toArray
  ·obtain ⟨o', q, r⟩ := st.1; rw [e] at q; cases q; exact ⟨_, e', r⟩
  ·intro b hb
   rw [Heap.size_push]
   rcases List.mem_cons.mp hb with rfl | hb
   ·exact Nat.lt_succ_self _
   ·rw [List.mem_singleton.mp hb]; exact Nat.lt_succ_of_lt hlt
  ·intro i v _ hv
   have hv : vs.toArray[i]? = some v := hv
   rw [List.getElem?_toArray] at hv
   exact hs.get' hv
 | @lst a vs n sl ds' h hs =>
  cases hi
  have hL : s.heap.IsList a vs.toArray := ⟨_, R.known o h, rfl, _, rfl⟩
  have hlt : a < s.heap.objs.size := Heap.lt_size (R.known o h)
  refine wpAny_pyIter_list hL (k _ ⟨[s.heap.objs.size, a], fun i v => vs.toArray[i]? = some v, fun i h => h.IsListIter s.heap.objs.size a i /\ h.IsList a vs.toArray, rfl, fun A' hA => ?_, ⟨⟨_, Heap.get?_push_size _ rfl, rfl, rfl⟩, _, Heap.get?_push_of_some _ (R.known o h), rfl, _, rfl⟩, fun i h st => by obtain ⟨o, e, _⟩ := st.1; exact ⟨o, e⟩, fun i h_1 h_2 ob st e e' kn => ⟨?_, _, kn _ _ h, rfl, _, rfl⟩, ?_, ?_⟩)
  ·rw [show ds.length = vs.toArray.size from by simp [hs.length]]
   exact Walks.list (prog := G.prog) (w := G.w) hA s.heap.objs.size a (Nat.ne_of_lt hlt) vs.toArray
  ·obtain ⟨o', q, r⟩ := st.1; rw [e] at q; cases q; exact ⟨_, e', r⟩
  ·intro b hb
   rw [Heap.size_push]
   rcases List.mem_cons.mp hb with rfl | hb
   ·exact Nat.lt_succ_self _
   ·rw [List.mem_singleton.mp hb]; exact Nat.lt_succ_of_lt hlt
  ·intro i v _ hv
   have hv : vs.toArray[i]? = some v := hv
   rw [List.getElem?_toArray] at hv
   exact hs.get' hv
 | @str x t =>
  cases hi
  have fin : ∀ i v, i < (x.cps.toList.map fun c => V.str [c]).length -> SignAt x i v -> ∃ d, (x.cps.toList.map fun c => V.str [c])[i]? = some d /\ RV G.P G.K W v d := by
   rintro i v _ ⟨c, u, hc, rfl⟩
   refine ⟨.str [c], ?_, .str _ _⟩
   rw [List.getElem?_map, Array.getElem?_toList, hc]; rfl
  cases ha : x.cps.all (· < 128)
  ·refine wpAny_pyIter_wide ha (k _ ⟨[s.heap.objs.size], SignAt x, fun i h => h.IsStrIter s.heap.objs.size "str_iterator" x t i, rfl, fun A' hA => ?_, ⟨_, Heap.get?_push_size _ rfl, rfl, rfl⟩, fun i h st => by obtain ⟨o, e, _⟩ := st; exact ⟨o, e⟩, fun i h_1 h_2 ob st e e' kn => ?_, fun b hb => one hb, fin⟩)
   ·have := Walks.strWide (prog := G.prog) (w := G.w) hA s.heap.objs.size x t
    rw [List.length_map, Array.length_toList]; exact this
   ·obtain ⟨o', q, r⟩ := st; rw [e] at q; cases q; exact ⟨_, e', r⟩
  ·refine wpAny_pyIter_ascii ha (k _ ⟨[s.heap.objs.size], SignAt x, fun i h => h.IsStrIter s.heap.objs.size "str_ascii_iterator" x t i, rfl, fun A' hA => ?_, ⟨_, Heap.get?_push_size _ rfl, rfl, rfl⟩, fun i h st => by obtain ⟨o, e, _⟩ := st; exact ⟨o, e⟩, fun i h_1 h_2 ob st e e' kn => ?_, fun b hb => one hb, fin⟩)
   ·have := Walks.strAscii (prog := G.prog) (w := G.w) hA s.heap.objs.size x t
    rw [List.length_map, Array.length_toList]; exact this
   ·obtain ⟨o', q, r⟩ := st; rw [e] at q; cases q; exact ⟨_, e', r⟩
 | @bytes x t =>
  cases hi
  refine KBw.pyIter_bytes (k _ ⟨[s.heap.objs.size], fun i v => ∃ c u, x[i]? = some c /\ v = .int (c.toNat : Int) u, fun i h => KBw.IsBytesIter h s.heap.objs.size x t i, rfl, fun A' hA => ?_, ⟨_, Heap.get?_push_size _ rfl, rfl, rfl⟩, fun i h st => by obtain ⟨o, e, _⟩ := st; exact ⟨o, e⟩, fun i h_1 h_2 ob st e e' kn => ?_, fun b hb => one hb, ?_⟩)
  ·rw [List.length_map, Array.length_toList]
   exact KBw.walks (prog := G.prog) (w := G.w) hA s.heap.objs.size x t
  ·obtain ⟨o', q, r⟩ := st; rw [e] at q; cases q; exact ⟨_, e', r⟩
  ·rintro i v _ ⟨c, u, hc, rfl⟩
   refine ⟨.int c.toNat, ?_, .int _ _⟩
   rw [List.getElem?_map, Array.getElem?_toList, hc]; rfl
 | @rng r a b t u v h =>
  cases hi
  have hr : IsRange s.heap r a b 1 t u v := R.known o h
  refine wpAny_pyIter_range hr hk (k _ ⟨[s.heap.objs.size], fun i v => ∃ t, v = .int (a + (i : Int)) t, fun i h => IsRangeIter h s.heap.objs.size (a + (i : Nat) * 1) (((b - a).toNat : Int) - (i : Nat)) 1, rfl, fun A' hA => ?_, ?_, fun i h st => ⟨_, st⟩, fun i h_1 h_2 ob st e e' kn => ?_, fun b hb => one hb, ?_⟩)
  ·have := LCg.range_walks (prog := G.prog) (w := G.w) (I := s.heap.objs.size) hA a (b - a).toNat
   rw [List.length_map, List.length_range]; exact this
  ·show IsRangeIter _ _ _ _ _
   have := Heap.get?_push_size s.heap (o := { cls := .type "range_iterator", data := .fields #[rawInt a, rawInt (Builtin.Range.rangeSize a b 1), rawInt 1] }) rfl
   rw [rangeSize_nat] at this
   simpa [rangeSize_nat] using this
  ·show h_2.get? _ = _
   rw [e', <- e]; exact st
  ·rintro i v hlt ⟨t, rfl⟩
   rw [List.length_map, List.length_range] at hlt
   refine ⟨.int (a + (i : Nat)), ?_, .int _ _⟩
   rw [List.getElem?_map, List.getElem?_range hlt]; rfl
 | _ => cases hi
end
section
variable {G : Gx} {X : Fx} {σ : St} {Ψ : Ps} {Φ : V -> St -> Prop} {ΦB : Bool -> St -> Prop} {ΦF : Fl -> St -> Prop} {W : Wd} {s : Shared}
theorem dD (hf : X.md = .fr) : X.env = X.fenv := by unfold Fx.env; rw [hf]
theorem iJ {e : Value} (o : X.Ok G) (hf : X.md = .fr) (y : EE G X Ψ e s) : notedBy G.M X.A X.env (cameBackBy G.M X.A X.env (EE G X Ψ)) e s := by
 obtain ⟨a, loc, hΨ, ⟨ea, g, m, B, C, dx, es, n, t, rfl, F1, hl, u, sb, hb, hC, hdx, hat, hn0, ex⟩, sh⟩ := y
 rw [dD hf]
 exact kW o.frames rfl ex fun h' ex' u' => ⟨a, loc, hΨ, ⟨ea, g, m, B, C, dx, es, n, t, rfl, F1, hl, u.trans u', sb, hb, hC, hdx, hat, hn0, ex'⟩, ⟨sh.gens, sh.drawn, sh.os⟩⟩
noncomputable abbrev WhP (I : Nat -> St -> Prop) (n : Nat) (ΦF : Fl -> St -> Prop) : Fl -> St -> Prop := fun f σ2 => match f with | .next => ∃ m, m < n /\ I m σ2 | .cont => ∃ m, m < n /\ I m σ2 | .brk => ΦF .next σ2 | .ret d => ΦF (.ret d) σ2
theorem dH {test : Expr} {body : List Stmt} {pos : Pos} (o : X.Ok G) (hf : X.md = .fr) (I : Nat -> St -> Prop) (n : Nat) (h0 : I n σ)
  (step : ∀ n σ, I n σ -> TX G X test (fun c σ1 => (c = true -> SSX G X body (WhP I n ΦF) Ψ σ1) /\ (c = false -> ΦF .next σ1)) Ψ σ) :
  SX G X (.While test body [] pos) ΦF Ψ σ := by
 intro W s R
 refine wpAny_While (codeAny_whileLoop (fun n s => ∃ W' σ', W.le W' /\ RelS G X W' σ' s /\ I n σ') ?_ n ⟨W, σ, .rfl, R, h0⟩)
 rintro n s ⟨W', σ', l, R', hI⟩
 refine wpAny_mono (step n σ' hI W' s R') (fun c s_1 yy => ?_) fun e s_1 y => iJ o hf y
 obtain ⟨W1, σ1, l_1, R_1, h_1⟩ := yy
 cases c with
 | true =>
  refine wpAny_mono (h_1.1 rfl W1 s_1 R_1) (fun f s_2 yy => ?_) fun e s_1 y => iJ o hf y
  obtain ⟨W_2, d, σ2, l_2, rf, R_2, h_2⟩ := yy
  have L := (l.trans l_1).trans l_2
  cases rf with
  | next => obtain ⟨m, hm, hI⟩ := h_2; exact ⟨m, hm, W_2, σ2, L, R_2, hI⟩
  | cont => obtain ⟨m, hm, hI⟩ := h_2; exact ⟨m, hm, W_2, σ2, L, R_2, hI⟩
  | brk => exact ⟨W_2, _, σ2, L, .next, R_2, h_2⟩
  | ret r => exact ⟨W_2, _, σ2, L, .ret r, R_2, h_2⟩
 | false => exact wpAny_execs_nil ⟨W1, _, σ1, l.trans l_1, .next, R_1, h_1.2 rfl⟩
noncomputable abbrev Fx.pin (X : Fx) (p : Addr × Obj) : Fx := { X with pins := p :: X.pins }
theorem RelS.unpin {p : Addr × Obj} (r : RelS G (X.pin p) W σ s) (hf : X.md = .fr) : RelS G X W σ s := by
 obtain ⟨⟨m, M, R⟩, S⟩ := r
 have nd : ((p :: (X.pins ++ (M ++ W.Z))).map (·.1)).Nodup := R.nod
 rw [List.map_cons, List.nodup_cons] at nd
 exact ⟨⟨m, M, R.fr, fun q hq => R.nw q (.tail _ hq), nd.2, R.lc, R.re, ⟨R.st.nod, R.st.loc, R.st.glb⟩, by rw [hf]; trivial⟩, S⟩
theorem RelS.pin {I : Addr} {oI : Obj} (r : RelS G X W σ s) (hf : X.md = .fr) (hI : I = s.heap.objs.size) (hfr : oI.isFreed = false) : RelS G (X.pin (I, oI)) W σ { s with heap := s.heap.push oI } := by
 obtain ⟨⟨m, M, R⟩, S⟩ := r
 subst hI
 exact ⟨⟨m, M, R.fr.push _, R.pushed oI hfr, List.nodup_cons.mpr ⟨R.fresh, R.nod⟩, R.lc, R.re, ⟨R.st.nod, R.st.loc, R.st.glb⟩, by
  show match X.md with | .fr => True | .cp e _ mc => _
  rw [hf]; trivial⟩, ⟨S.gens, S.drawn, S.os⟩⟩
theorem RelS.turn {I : Addr} {oI oI' : Obj} {h' : Heap} {tk : Nat} (r : RelS G (X.pin (I, oI)) W σ s) (hf : X.md = .fr) (k : ∀ b o, b ∉ [I] -> s.heap.get? b = some o -> h'.get? b = some o) (hI : h'.get? I = some oI') :
  RelS G (X.pin (I, oI')) W σ { s with heap := h', toks := tk } := by
 obtain ⟨⟨m, M, R⟩, S⟩ := r
 have nd : (((I, oI) :: (X.pins ++ (M ++ W.Z))).map (·.1)).Nodup := R.nod
 have P := R.nw (I, oI) (.head _)
 rw [List.map_cons, List.nodup_cons] at nd
 refine ⟨⟨m, M, LCg.fr_but R.fr k (Ne.symm P.2.1) P.2.2, fun q hq => ?_, R.nod, R.lc, R.re, ⟨R.st.nod, R.st.loc, R.st.glb⟩, by
  show match X.md with | .fr => True | .cp e _ mc => _
  rw [hf]; trivial⟩, ⟨S.gens, S.drawn, S.os⟩⟩
 rcases List.mem_cons.mp hq with rfl | hq
 ·exact ⟨hI, P.2.1, P.2.2⟩
 ·have Q := R.nw q (.tail _ hq)
  exact ⟨k _ _ (fun z => nd.1 (List.mem_map.mpr ⟨q, hq, List.mem_singleton.mp z⟩)) Q.1, Q.2⟩
theorem RelS.other {I : Addr} {oI : Obj} {h' : Heap} {tk : Nat} (r : RelS G (X.pin (I, oI)) W σ s) (hf : X.md = .fr) (k : ∀ b o, b ∉ [I] -> s.heap.get? b = some o -> h'.get? b = some o) : RelS G X W σ { s with heap := h', toks := tk } := by
 obtain ⟨⟨m, M, R⟩, S⟩ := r
 have nd : (((I, oI) :: (X.pins ++ (M ++ W.Z))).map (·.1)).Nodup := R.nod
 have P := R.nw (I, oI) (.head _)
 rw [List.map_cons, List.nodup_cons] at nd
 refine ⟨⟨m, M, LCg.fr_but R.fr k (Ne.symm P.2.1) P.2.2, fun q hq => ?_, nd.2, R.lc, R.re, ⟨R.st.nod, R.st.loc, R.st.glb⟩, by rw [hf]; trivial⟩, ⟨S.gens, S.drawn, S.os⟩⟩
 have Q := R.nw q (.tail _ hq)
 exact ⟨k _ _ (fun z => nd.1 (List.mem_map.mpr ⟨q, hq, List.mem_singleton.mp z⟩)) Q.1, Q.2⟩
theorem Fx.Ok.pin {p : Addr × Obj} (o : X.Ok G) : (X.pin p).Ok G := ⟨o.g, o.below, o.kind, o.frames, o.depth, o.units, o.ek, o.eg, o.eb⟩
noncomputable abbrev FoP (I : Nat -> St -> Prop) (i : Nat) (ΦF : Fl -> St -> Prop) : Fl -> St -> Prop := fun f σ3 => match f with | .next => I (i + 1) σ3 | .cont => I (i + 1) σ3 | .brk => ΦF .next σ3 | .ret d => ΦF (.ret d) σ3
theorem gY {x : Str} {xp pos : Pos} {it : Expr} {body : List Stmt} (o : X.Ok G) (hf : X.md = .fr) (hh : X.A.handled = none) (hs : ∀ env y, foldedSetIterable it env y = pure y)
  (h : EX G X it (fun d σ1 => ∃ ds, items d = some ds /\ iterOk d = true /\ ∃ I : Nat -> St -> Prop, I 0 σ1 /\
   (∀ i e σ2, ds[i]? = some e -> I i σ2 -> ∃ l', Put x e σ2.loc l' /\ ∀ X', X'.Ok G -> X'.md = .fr -> X'.A.handled = none -> X'.room = X.room -> X'.scope = X.scope ->
    SSX G X' body (FoP I i ΦF) Ψ { σ2 with loc := l' }) /\
   (∀ σ2, I ds.length σ2 -> ΦF .next σ2)) Ψ σ) : SX G X (.For (.Name x xp) it body [] pos) ΦF Ψ σ := by
 intro W s R
 refine wpAny_For (wpAny_mono (h W s R) (fun v s_1 yy => ?_) fun _ _ y => y) (hs := hs X.env)
 obtain ⟨W1, d, σ1, l_1, rv, R_1, ds, hi, hk, I, I0, hstep, hend⟩ := yy
 refine iter_ o R_1 rv hi hk fun oI yy => ?_
 obtain ⟨fp, P, St, hfr, Wk, st0, hIo, hSt, hfp, hP⟩ := yy
 generalize hI0 : s_1.heap.objs.size = i0 at *
 have Wk := Wk X.A hh
 have Rp : RelS G (X.pin (i0, oI)) W1 σ1 { s_1 with heap := s_1.heap.push oI } := R_1.pin hf hI0.symm hfr
 refine codeAny_forLoop (fun n s => ∃ W' σ' i oI, W1.le W' /\ i <= ds.length /\ n = ds.length - i /\ RelS G (X.pin (i0, oI)) W' σ' s /\ St i s.heap /\ I i σ') ?_ ds.length ⟨W1, σ1, 0, oI, .rfl, Nat.zero_le _, rfl, Rp, st0, I0⟩
 rintro n s ⟨W', σ', i, oI, l, hi', rfl, R', hst, hI⟩
 by_cases hlt : i < ds.length
 ·refine Wk.item i _ _ _ hlt hst fun v h_2 tk2 hPv hst2 hk_2 => ?_
  obtain ⟨e, he, rve⟩ := hP i v hlt hPv
  obtain ⟨oI', hI'⟩ := hIo _ _ hst2
  have R_2 := R'.turn (tk := tk2) hf hk_2 hI'
  obtain ⟨l', hput, hbody⟩ := hstep i e σ' he hI
  show wpAny _ _ (assign (.Name x xp) X.env v) _ _ _
  refine wpAny_assign_Name (fw (X := X.pin (i0, oI')) o.pin hf hput (rve.mono l) R_2 fun s_3 R_3 => ?_)
  refine wpAny_mono (hbody (X.pin (i0, oI')) o.pin hf hh rfl rfl W' s_3 R_3) (fun f s_4 yy => ?_) fun e s_1 y => iJ (X := X) o hf y.as
  obtain ⟨W_2, fd, σ2, l_2, rf, R_4, hq⟩ := yy
  have L := l.trans l_2
  have nxt : I (i + 1) σ2 -> ∃ m, m < ds.length - i /\ ∃ W' σ' i oI, W1.le W' /\ i <= ds.length /\ m = ds.length - i /\ RelS G (X.pin (i0, oI)) W' σ' s_4 /\ St i s_4.heap /\ I i σ' := fun hI2 => by
   refine ⟨ds.length - (i + 1), by exact (Om.q 4 0 (.i (.t .x3 .x2) (.i (.o (.a (.l (.a .x3 .k1) .x2) (.e (.a .x1 (.a .x3 .k1)) .x2)) (.a (.t .x2 (.a .x3 .k1)) (.e .x1 .k0))) (.i (.o (.a (.l .x3 .x2) (.e (.a .x0 .x3) .x2)) (.a (.t .x2 .x3) (.e .x0 .k0))) (.t .x1 .x0))))) _ _ _ _ hlt (Om.sbo _ _) (Om.sbo _ _), W_2, σ2, i + 1, oI', L, hlt, rfl, R_4, ?_, hI2⟩
   have R4' := R_4
   obtain ⟨⟨m, M, Q⟩, _⟩ := R_4
   exact hSt _ h_2 _ oI' hst2 hI' (Q.nw (i0, oI') (.head _)).1 fun b ob kn => R4'.known (X := X.pin (i0, oI')) o.pin (kn.mono L)
  cases rf with
  | next => exact nxt hq
  | cont => exact nxt hq
  | brk => exact ⟨W_2, _, σ2, l_1.trans L, .next, R_4.unpin hf, hq⟩
  | ret r => exact ⟨W_2, _, σ2, l_1.trans L, .ret r, R_4.unpin hf, hq⟩
 ·have hin : i = ds.length := Nat.le_antisymm hi' (Nat.not_lt.mp hlt)
  rw [hin] at hst hI
  refine Wk.done _ _ _ hst fun h_2 tk2 hk_2 => ?_
  exact wpAny_execs_nil ⟨W', _, σ', l_1.trans l, .next, R'.other hf hk_2, hend σ' hI⟩
end
theorem fx {env : Env} {k : NameKind} (hk : (k == .free) = false) : ∀ {names : List (Str × NameKind)} {x : Str}, names.lookup x = some k ->
  (names.map fun (n, k) => if (k == NameKind.free && env.scope.kind == .function && env.kindOf n == some .cell) then (n, NameKind.cell) else (n, k)).lookup x = some k := by
 intro names
 induction names with
 | nil => exact fun h => nomatch h
 | cons p r ih =>
  obtain ⟨n, k'⟩ := p
  intro x h
  show List.lookup x ((if (k' == NameKind.free && env.scope.kind == .function && env.kindOf n == some .cell) = true then (n, NameKind.cell) else (n, k')) :: _) = _
  rw [List.lookup_cons] at h
  cases hx : x == n with
  | true =>
   rw [hx] at h
   cases h
   rw [hk]
   show List.lookup x ((n, k) :: _) = _
   rw [List.lookup_cons, hx]
  | false =>
   rw [hx] at h
   by_cases hc : (k' == NameKind.free && env.scope.kind == .function && env.kindOf n == some .cell) = true
   ·rw [if_pos hc, List.lookup_cons, hx]; exact ih h
   ·rw [if_neg hc, List.lookup_cons, hx]; exact ih h
section
variable {G : Gx} {X : Fx} {σ : St} {Ψ : Ps} {Φ : V -> St -> Prop} {ΦB : Bool -> St -> Prop} {ΦF : Fl -> St -> Prop} {W : Wd} {s : Shared}
noncomputable def noPs : Ps := fun _ _ => False
theorem cx {G : Gx} {X : Fx} {e : Value} {s : Shared} (h : EE G X noPs e s) : False := by cases h; assumption
noncomputable def cfx (X : Fx) (scope : Scope) (cl : List (Str × Addr)) (I C D : Addr) (oI oC : Obj) (ys : List Value) (m m_2 : Str -> Option Value) : Fx :=
 { X with md := .cp (compEnvC scope cl C X.env) m m_2, pins := (I, oI) :: (C, oC) :: (D, LCg.lst ys) :: X.pins }
theorem cfx_ok {scope : Scope} {cl : List (Str × Addr)} {I C D : Addr} {oI oC : Obj} {ys : List Value} {m m_2 : Str -> Option Value} (o : X.Ok G) (hk : scope.kind = .function) : (cfx X scope cl I C D oI oC ys m m_2).Ok G :=
 ⟨o.g, o.below, o.kind, o.frames, o.depth, o.units, hk, o.eg, o.eb⟩
noncomputable def bY (G : Gx) (X : Fx) (scope : Scope) (x : Str) (glb : List (Str × V)) (H : List (Option MO)) (d : V) (P : Fx -> St -> Prop) : Prop :=
 ∀ X', X'.Ok G -> X'.md ≠ .fr -> X'.A.handled = none -> X'.room = X.room -> P X' ⟨[(x, some d)], glb, H⟩
theorem gQ {scope : Scope} {cl : List (Str × Addr)} {x : Str} {glb : List (Str × V)} {I C D : Addr} {oI oC : Obj} {ys : List Value} {m_2 : Str -> Option Value} {v : Value} {d : V} {h : Heap} {tk : Nat} {m : Str -> Option Value} {M : List (Addr × Obj)} {W' : Wd}
  (o : X.Ok G) (hf : X.md = .fr) (hx : scope.names.lookup x = some .local) (hxd : (x == ("__debug__" : Str)) = false) (hgk : fR scope glb = true) (hg : Gls G glb)
  (hC : LCg.NsObj oC m_2) (hv : m_2 x = some v) (rv : RV G.P G.K W' v d) (F : Fr X.h₀ X.L h m) (N : News X.h₀ X.L h ((I, oI) :: (C, oC) :: (D, LCg.lst ys) :: (X.pins ++ (M ++ W'.Z)))) (off : LCg.Off3 I C D (X.pins ++ (M ++ W'.Z))) (hne : (@Ne Nat I C) /\ (@Ne Nat I D) /\ (@Ne Nat C D))
  (nd : ((X.pins ++ (M ++ W'.Z)).map (·.1)).Nodup) (re : Rend G.P G.K W' W'.α σ.heap M) (sh : Sh G s) :
  RelS G (cfx X scope cl I C D oI oC ys m m_2) W' ⟨[(x, some d)], glb, σ.heap⟩ { s with heap := h, toks := tk } := by
 have off' := off.mem
 refine ⟨⟨m, M, F, N, ?_, ⟨rfl, fun y e hm => ?_⟩, re, ⟨by simp, fun y hy => ?_, fun p hp => ?_⟩, ?_⟩, ⟨sh.gens, sh.drawn, sh.os⟩⟩
 ·show (((I, oI) :: (C, oC) :: (D, LCg.lst ys) :: (X.pins ++ (M ++ W'.Z))).map (·.1)).Nodup
  simp only [List.map_cons, List.nodup_cons, List.mem_cons, not_or]
  refine ⟨⟨hne.1, hne.2.1, fun q => ?_⟩, ⟨hne.2.2, fun q => ?_⟩, fun q => ?_, nd⟩
  ·obtain ⟨p, hp, e⟩ := List.mem_map.mp q; exact (off' p hp).1 e
  ·obtain ⟨p, hp, e⟩ := List.mem_map.mp q; exact (off' p hp).2.1 e
  ·obtain ⟨p, hp, e⟩ := List.mem_map.mp q; exact (off' p hp).2.2 e
 ·cases hm with
  | head => exact ⟨v, hv, rv⟩
  | tail _ h => cases h
 ·simp only [List.map_cons, List.map_nil, List.mem_singleton] at hy
  subst hy
  exact ⟨fx rfl hx, hxd⟩
 ·have := fE hgk hg p hp
  exact ⟨fx rfl this.1.1, this.1.2, this.2⟩
 ·exact ⟨oC, .tail _ (.head _), hC⟩
theorem comp_rest {elt : Expr} {x : Str} {scope : Scope} {cl : List (Str × Addr)} {glb : List (Str × V)} {f : V -> V} {ds : List V} {P : Nat -> Value -> Prop} {Fin : List Value -> List (Addr × Obj) -> Prop} {m : Str -> Option Value}
  (o : X.Ok G) (hf : X.md = .fr) (hh : X.A.handled = none) (hkind : scope.kind = .function) (hx : scope.names.lookup x = some .local) (hxd : (x == ("__debug__" : Str)) = false) (hgk : fR scope glb = true) (hg : Gls G glb)
  (sh : Sh G s) (hP : ∀ i v, i < ds.length -> P i v -> ∃ d, ds[i]? = some d /\ RV G.P G.K W v d)
  (helt : ∀ d ∈ ds, bY G X scope x glb σ.heap d fun X' σ' => EX G X' elt (fun d' σ2 => d' = f d /\ σ2 = σ') noPs σ')
  (hFin : ∀ W' M ys, W.le W' -> RVs G.P G.K W' ys (ds.map f) -> ((X.pins ++ (M ++ W'.Z)).map (·.1)).Nodup -> Rend G.P G.K W' W'.α σ.heap M -> Fin ys (X.pins ++ (M ++ W'.Z))) :
  ∀ k i ys W' M, i + k = ds.length -> W.le W' -> RVs G.P G.K W' ys ((ds.take i).map f) -> ((X.pins ++ (M ++ W'.Z)).map (·.1)).Nodup -> Rend G.P G.K W' W'.α σ.heap M ->
   LCg.CompRest G.prog G.w X.A X.h₀ X.L m X.env elt x scope cl s (fun nw => ∀ p ∈ W.Z, p ∈ nw) P Fin k i ys (X.pins ++ (M ++ W'.Z)) := by
 intro k
 induction k with
 | zero =>
  intro i ys W' M hi l rs nd re
  have : ds.take i = ds := by rw [List.take_of_length_le (by exact (Om.q 2 0 (.i (.e (.a .x1 .k0) .x0) (.l .x0 .x1))) _ _ hi)]
  rw [this] at rs
  exact hFin W' M ys l rs nd re
 | succ k ih =>
  intro i ys W' M hi l rs nd re
  refine LCg.CompRest.succ fun v I oI C oC D m_2 h tk E' hPv hoC hm2 F N off hne => ?_
  obtain ⟨d, hd, rv⟩ := hP i v ((Om.q 3 0 (.i (.e (.a .x2 (.a .x1 .k1)) .x0) (.t .x2 .x0))) _ _ _ hi) hPv
  have RR := gQ (cl := cl) (s := s) (tk := tk) o hf hx hxd hgk hg hoC hm2 (rv.mono l) F N off hne nd re sh
  have ok := cfx_ok (cl := cl) (I := I) (C := C) (D := D) (oI := oI) (oC := oC) (ys := ys) (m := m) (m_2 := m_2) o hkind
  have T := helt d (List.mem_of_getElem? hd) _ ok (by intro q; cases q) hh rfl W' _ RR
  refine wpAny_mono T (fun y s_2 yy => ?_) fun e s_2 y => (cx y).elim
  obtain ⟨W_2, d', σ2, l_2, ry, R_2, e1, e2⟩ := yy
  subst e1 e2
  obtain ⟨⟨m', M2, Q⟩, sh2⟩ := R_2
  obtain rfl : m' = m := Q.lc.1
  have nd' : (((I, oI) :: (C, oC) :: (D, LCg.lst ys) :: (X.pins ++ (M2 ++ W_2.Z))).map (·.1)).Nodup := Q.nod
  have N' : News X.h₀ X.L s_2.heap ((I, oI) :: (C, oC) :: (D, LCg.lst ys) :: (X.pins ++ (M2 ++ W_2.Z))) := Q.nw
  simp only [List.map_cons, List.nodup_cons, List.mem_cons, not_or] at nd'
  refine ⟨s_2.heap, s_2.toks, X.pins ++ (M2 ++ W_2.Z), ?_, Q.fr, N', LCg.Off3.of fun p hp => ⟨fun q => nd'.1.2.2 (q ▸ List.mem_map_of_mem hp), fun q => nd'.2.1.2 (q ▸ List.mem_map_of_mem hp), fun q => nd'.2.2.1 (q ▸ List.mem_map_of_mem hp)⟩, fun p hp => List.mem_append_right _ (List.mem_append_right _ ((l.trans l_2).z p hp)), ?_⟩
  ·obtain ⟨a, b, c, d, e⟩ := s_2
   have h1 := sh2.gens; have h2 := sh2.drawn; have h3 := sh2.os
   have g1 := sh.gens; have g2 := sh.drawn; have g3 := sh.os
   simp only at h1 h2 h3
   rw [h1, h2, h3, <- g1, <- g2, <- g3]
  ·refine ih (i + 1) (ys ++ [y]) W_2 M2 ((Om.q 3 0 .f52) _ _ _ hi) (l.trans l_2) ?_ nd'.2.2.2 Q.re
   have : (ds.take (i + 1)).map f = (ds.take i).map f ++ [f d] := by
    rw [List.take_add_one, hd]; simp
   rw [this]
   exact (rs.mono l_2).append (.cons ry .nil)
theorem lv {ct elt : Expr} {x : Str} {scope : Scope} {cl : List (Str × Addr)} {glb : List (Str × V)} {c : V -> Bool} {f : V -> V} {ds : List V} {P : Nat -> Value -> Prop} {Fin : List Value -> List (Addr × Obj) -> Prop} {m : Str -> Option Value}
  (o : X.Ok G) (hf : X.md = .fr) (hh : X.A.handled = none) (hkind : scope.kind = .function) (hx : scope.names.lookup x = some .local) (hxd : (x == ("__debug__" : Str)) = false) (hgk : fR scope glb = true) (hg : Gls G glb)
  (sh : Sh G s) (hP : ∀ i v, i < ds.length -> P i v -> ∃ d, ds[i]? = some d /\ RV G.P G.K W v d)
  (htest : ∀ d ∈ ds, bY G X scope x glb σ.heap d fun X' σ' => TX G X' ct (fun b σ2 => b = c d /\ σ2 = σ') noPs σ')
  (helt : ∀ d ∈ ds, c d = true -> bY G X scope x glb σ.heap d fun X' σ' => EX G X' elt (fun d' σ2 => d' = f d /\ σ2 = σ') noPs σ')
  (hFin : ∀ W' M ys, W.le W' -> RVs G.P G.K W' ys ((ds.filter c).map f) -> ((X.pins ++ (M ++ W'.Z)).map (·.1)).Nodup -> Rend G.P G.K W' W'.α σ.heap M -> Fin ys (X.pins ++ (M ++ W'.Z))) :
  ∀ k i ys W' M, i + k = ds.length -> W.le W' -> RVs G.P G.K W' ys (((ds.take i).filter c).map f) -> ((X.pins ++ (M ++ W'.Z)).map (·.1)).Nodup -> Rend G.P G.K W' W'.α σ.heap M ->
   LCt.CompRestT G.prog G.w X.A X.h₀ X.L m X.env ct elt x scope cl s (fun nw => ∀ p ∈ W.Z, p ∈ nw) P Fin k i ys (X.pins ++ (M ++ W'.Z)) := by
 intro k
 induction k with
 | zero =>
  intro i ys W' M hi l rs nd re
  have : ds.take i = ds := by rw [List.take_of_length_le (by exact (Om.q 2 0 (.i (.e (.a .x1 .k0) .x0) (.l .x0 .x1))) _ _ hi)]
  rw [this] at rs
  exact hFin W' M ys l rs nd re
 | succ k ih =>
  intro i ys W' M hi l rs nd re
  refine LCt.CompRestT.succ fun v I oI C oC D m_2 h tk E' hPv hoC hm2 F N off hne => ?_
  obtain ⟨d, hd, rv⟩ := hP i v ((Om.q 3 0 (.i (.e (.a .x2 (.a .x1 .k1)) .x0) (.t .x2 .x0))) _ _ _ hi) hPv
  have RR := gQ (cl := cl) (s := s) (tk := tk) o hf hx hxd hgk hg hoC hm2 (rv.mono l) F N off hne nd re sh
  have ok := cfx_ok (cl := cl) (I := I) (C := C) (D := D) (oI := oI) (oC := oC) (ys := ys) (m := m) (m_2 := m_2) o hkind
  have T := htest d (List.mem_of_getElem? hd) _ ok (by intro q; cases q) hh rfl W' _ RR
  have fin : ∀ (s_2 : Shared) (W_2 : Wd) (ys' : List Value) (b : Value), W'.le W_2 -> RelS G (cfx X scope cl I C D oI oC ys m m_2) W_2 ⟨[(x, some d)], glb, σ.heap⟩ s_2 -> RVs G.P G.K W_2 ys' (((ds.take (i + 1)).filter c).map f) ->
    LCg.CompEnd X.h₀ X.L m { s with heap := h, toks := tk } I oI C oC D (LCg.lst ys) (fun nw => ∀ p ∈ W.Z, p ∈ nw) (fun _ news' => LCt.CompRestT G.prog G.w X.A X.h₀ X.L m X.env ct elt x scope cl s (fun nw => ∀ p ∈ W.Z, p ∈ nw) P Fin k (i + 1) ys' news') b s_2 := by
   intro s_2 W_2 ys' b l_2 R_2 rs'
   obtain ⟨⟨m', M2, Q⟩, sh2⟩ := R_2
   obtain rfl : m' = m := Q.lc.1
   have nd' : (((I, oI) :: (C, oC) :: (D, LCg.lst ys) :: (X.pins ++ (M2 ++ W_2.Z))).map (·.1)).Nodup := Q.nod
   have N' : News X.h₀ X.L s_2.heap ((I, oI) :: (C, oC) :: (D, LCg.lst ys) :: (X.pins ++ (M2 ++ W_2.Z))) := Q.nw
   simp only [List.map_cons, List.nodup_cons, List.mem_cons, not_or] at nd'
   refine ⟨s_2.heap, s_2.toks, X.pins ++ (M2 ++ W_2.Z), ?_, Q.fr, N', LCg.Off3.of fun p hp => ⟨fun q => nd'.1.2.2 (q ▸ List.mem_map_of_mem hp), fun q => nd'.2.1.2 (q ▸ List.mem_map_of_mem hp), fun q => nd'.2.2.1 (q ▸ List.mem_map_of_mem hp)⟩, fun p hp => List.mem_append_right _ (List.mem_append_right _ ((l.trans l_2).z p hp)), ?_⟩
   ·obtain ⟨a, b, c, d, e⟩ := s_2
    have h1 := sh2.gens; have h2 := sh2.drawn; have h3 := sh2.os
    have g1 := sh.gens; have g2 := sh.drawn; have g3 := sh.os
    simp only at h1 h2 h3
    rw [h1, h2, h3, <- g1, <- g2, <- g3]
   ·exact ih (i + 1) ys' W_2 M2 ((Om.q 3 0 .f52) _ _ _ hi) (l.trans l_2) rs' nd'.2.2.2 Q.re
  have tk1 : ds.take (i + 1) = ds.take i ++ [d] := by rw [List.take_add_one, hd]; rfl
  refine wpAny_mono T (fun b s_2 yy => ?_) fun e s_2 y => (cx y).elim
  obtain ⟨W_2, σ2, l_2, R_2, e1, e2⟩ := yy
  subst e2
  cases b with
  | true =>
   simp only [if_true]
   have T2 := helt d (List.mem_of_getElem? hd) e1.symm _ ok (by intro q; cases q) hh rfl W_2 _ R_2
   refine wpAny_mono T2 (fun y s_3 yy => ?_) fun e s_2 y => (cx y).elim
   obtain ⟨W_3, d', σ3, l_3, ry, R_3, e3, e4⟩ := yy
   subst e3 e4
   refine fin s_3 W_3 (ys ++ [y]) y (l_2.trans l_3) R_3 ?_
   rw [tk1, List.filter_append, List.map_append]
   have : List.map f (List.filter c [d]) = [f d] := by simp [<- e1]
   rw [this]
   exact (rs.mono (l_2.trans l_3)).append (.cons ry .nil)
  | false =>
   simp only [Bool.false_eq_true, if_false]
   refine fin s_2 W_2 ys .none l_2 R_2 ?_
   rw [tk1, List.filter_append, List.map_append]
   have : List.map f (List.filter c [d]) = [] := by simp [<- e1]
   rw [this, List.append_nil]
   exact rs.mono l_2
end
section
variable {G : Gx} {X : Fx} {σ : St} {Ψ : Ps} {Φ : V -> St -> Prop} {ΦB : Bool -> St -> Prop} {ΦF : Fl -> St -> Prop} {W : Wd} {s : Shared}
noncomputable def cg (scope : Scope) (x : Str) (glb : List (Str × V)) : Bool :=
 (scope.names.all fun y => y.2 != .cell) && scope.kind == .function && (scope.names.all fun y => y.2 != .local || scope.names.lookup y.1 == some .local) && scope.names.lookup x == some .local && !(x == ("__debug__" : Str)) && fR scope glb
theorem et {scope : Scope} {x : Str} {glb : List (Str × V)} (h : cg scope x glb = true) : (∀ y ∈ scope.names, y.2 ≠ .cell) /\ scope.kind = .function /\ (∀ y ∈ scope.names, y.2 = .local -> scope.names.lookup y.1 = some .local) /\
  scope.names.lookup x = some .local /\ (x == ("__debug__" : Str)) = false /\ fR scope glb = true := by
 simp only [cg, Bool.and_eq_true, beq_iff_eq, Bool.not_eq_true'] at h
 obtain ⟨⟨⟨⟨⟨h1, h2⟩, h3⟩, h4⟩, h5⟩, h6⟩ := h
 refine ⟨fun y hy q => ?_, h2, fun y hy q => ?_, h4, h5, h6⟩
 ·have := List.all_eq_true.mp h1 y hy; rw [q] at this; injection this
 ·have := List.all_eq_true.mp h3 y hy; rw [q] at this
  simpa using this
noncomputable def CEnd (G : Gx) (X : Fx) (W : Wd) (σ : St) (s : Shared) (r : List V) (RR : Value -> Addr -> Result -> Shared -> Prop) : Prop :=
 ∀ D C oC m' W' h tk, W.le W' -> LCg.NsObj oC m' -> RV G.P G.K W' (.ref D) (.lst r) -> RelS G (X.pin (C, oC)) W' σ { s with heap := h, toks := tk } -> RR (.ref D) C (.ok .next) { s with heap := h, toks := tk }
theorem cend_ {D C : Addr} {m m' : Str -> Option Value} {W' : Wd} {h : Heap} {tk : Nat} {M : List (Addr × Obj)} {ys : List Value} {r : List V} {RR : Value -> Addr -> Result -> Shared -> Prop} {s_2 : Shared} (o : X.Ok G) (hf : X.md = .fr) (hlc : Lc G X W m σ.loc) (hst : Sta G X σ) (sh : Sh G s_2)
  (l : W.le W') (rs : RVs G.P G.K W' ys r) (nd : ((X.pins ++ (M ++ W'.Z)).map (·.1)).Nodup) (re : Rend G.P G.K W' W'.α σ.heap M)
  (F' : Fr X.h₀ X.L h m) (N' : News X.h₀ X.L h ((D, LCg.lst ys) :: (X.pins ++ (M ++ W'.Z)))) (o1 : LCg.Off1 D (X.pins ++ (M ++ W'.Z))) (hn : h.Ns C m') (hC₀ : X.h₀.get? C = none) (hCL : C ≠ X.L) (hCD : C ≠ D) (offC : ∀ p ∈ X.pins ++ (M ++ W'.Z), p.1 ≠ C)
  (k : CEnd G X W σ s_2 r RR) : RR (.ref D) C (.ok .next) { s_2 with heap := h, toks := tk } := by
 obtain ⟨oC, hoC, hns⟩ := LCg.ns_obj hn
 have l2 : W'.le ⟨(D, LCg.lst ys) :: W'.Z, W'.α⟩ := ⟨fun p hp => .tail _ hp, fun _ _ e => e⟩
 have offD : ∀ p ∈ X.pins ++ (M ++ W'.Z), p.1 ≠ D := by
  intro p hp q
  have : ∀ {l : List (Addr × Obj)}, LCg.Off1 D l -> ∀ p ∈ l, p.1 ≠ D := by
   intro l
   induction l with
   | nil => intro _ p hp; cases hp
   | cons a r ih =>
    intro x p hp
    rcases List.mem_cons.mp hp with rfl | hp
    ·exact x.1
    ·exact ih x.2 p hp
  exact this o1 p hp q
 have pm : (((C, oC) :: X.pins) ++ (M ++ (D, LCg.lst ys) :: W'.Z)).Perm ((C, oC) :: (D, LCg.lst ys) :: (X.pins ++ (M ++ W'.Z))) := by
  refine List.Perm.cons _ ?_
  show (X.pins ++ (M ++ (D, LCg.lst ys) :: W'.Z)).Perm _
  rw [<- List.append_assoc, <- List.append_assoc]
  exact List.perm_middle
 refine k D C oC m' _ h tk (l.trans l2) hns (.lst (.inr (.head _)) (rs.mono l2)) ⟨⟨m, M, F', fun p hp => ?_, ?_, hlc.mono (l.trans l2), re.mono l2, ⟨hst.nod, hst.loc, hst.glb⟩, ?_⟩, ⟨sh.gens, sh.drawn, sh.os⟩⟩
 ·rcases List.mem_cons.mp (pm.mem_iff.mp hp) with rfl | hp
  ·exact ⟨hoC, hCL, hC₀⟩
  ·exact N' p hp
 ·refine (pm.map _).nodup_iff.mpr ?_
  simp only [List.map_cons, List.nodup_cons, List.mem_cons, not_or]
  refine ⟨⟨hCD, fun q => ?_⟩, fun q => ?_, nd⟩
  ·obtain ⟨p, hp, e⟩ := List.mem_map.mp q; exact offC p hp e
  ·obtain ⟨p, hp, e⟩ := List.mem_map.mp q; exact offD p hp e
 ·show match X.md with | .fr => True | .cp e _ mc => _
  rw [hf]; trivial
theorem gS {elt it : Expr} {x : Str} {xp pos : Pos} {scope : Scope} {glb : List (Str × V)} {f : V -> V} {v : Value} {d : V} {ds : List V} {RR : Value -> Addr -> Result -> Shared -> Prop} {E : Value -> Shared -> Prop}
  (o : X.Ok G) (hf : X.md = .fr) (hh : X.A.handled = none) (ok : cg scope x glb = true) (hg : Gls G glb) (R : RelS G X W σ s) (rv : RV G.P G.K W v d) (hi : items d = some ds) (hk : iterOk d = true) (hsz : ds.length <= 1000000)
  (helt : ∀ d ∈ ds, bY G X scope x glb σ.heap d fun X' σ' => EX G X' elt (fun d' σ2 => d' = f d /\ σ2 = σ') noPs σ')
  (k : ∀ s_2, Sh G s_2 -> CEnd G X W σ s_2 (ds.map f) RR) :
  wpAny G.M X.A (pyIter v) (fun it' s_2 => wpAny G.M X.A (newList []) (fun acc s_3 => wpAny G.M X.A (newFunctionEnv scope X.env.globals [] [] X.env.qual none .none (some X.env)) (fun cenv s_4 =>
   codeAny G.M X.A (.compStart (.ListComp elt [⟨.Name x xp, it, [], 0⟩] scope pos) 0 it' acc { cenv with scope := relabel scope X.env }) (RR acc cenv.locals) s_4) E s_3) E s_2) E s := by
 obtain ⟨hcell, hkind, hnames, hx, hxd, hgk⟩ := et ok
 refine iter_ o R rv hi hk fun oI yy => ?_
 obtain ⟨fp, P, St, hfr, Wk, st0, hIo, hSt, hfp, hP⟩ := yy
 have sh := R.sh
 obtain ⟨⟨m, M, Q⟩, _⟩ := R
 have sh2 : Sh G { s with heap := s.heap.push oI } := ⟨sh.gens, sh.drawn, sh.os⟩
 refine LCg.block_U (m := m) (Fin := fun ys news => ∃ W' M, W.le W' /\ RVs G.P G.K W' ys (ds.map f) /\ ((X.pins ++ (M ++ W'.Z)).map (·.1)).Nodup /\ Rend G.P G.K W' W'.α σ.heap M /\ news = X.pins ++ (M ++ W'.Z)) (news := X.pins ++ (M ++ W.Z)) (S := fun nw => ∀ p ∈ W.Z, p ∈ nw) (Wk X.A hh) (by rw [sizeLine_eq]; exact Om.hi hsz) hIo
  (fun i h h' ob nw st e e' keep N' S' => hSt i h h' ob st e e' fun b ob' kn => kn.elim (fun q => keep _ _ (o.kin _ _ q)) fun q => (N' _ (S' _ q)).1) hcell hkind hx st0 hfp
  (Q.fr.push _) (Q.nw.grown fun _ _ e => Heap.get?_push_of_some _ e) (Nat.ne_of_lt Q.fr.ns.lt) (next_is_new Q.fr) (fun p hp => Nat.ne_of_lt (Heap.lt_size (Q.nw p hp).1)) (fun p hp => List.mem_append_right _ (List.mem_append_right _ hp))
  (comp_rest (W := W) o hf hh hkind hx hxd hgk hg sh2 hP helt (fun W' M ys l rs nd re => ⟨W', M, l, rs, nd, re, rfl⟩) _ 0 [] W M ((Om.q 1 0 (.e (.a .k0 .x0) .x0)) _) .rfl .nil Q.nod Q.re) ?_
 rintro D C h tk m' ys news' F' N' o1 hn hC₀ hD₀ hCL hDL hCD offC ⟨W', M', l, rs, nd, re, rfl⟩
 exact cend_ o hf Q.lc Q.st sh2 l rs nd re F' N' o1 hn hC₀ hCL hCD offC (k _ sh2)
theorem gR {ct elt it : Expr} {x : Str} {xp pos : Pos} {scope : Scope} {glb : List (Str × V)} {c : V -> Bool} {f : V -> V} {v : Value} {d : V} {ds : List V} {RR : Value -> Addr -> Result -> Shared -> Prop} {E : Value -> Shared -> Prop}
  (o : X.Ok G) (hf : X.md = .fr) (hh : X.A.handled = none) (ok : cg scope x glb = true) (hg : Gls G glb) (R : RelS G X W σ s) (rv : RV G.P G.K W v d) (hi : items d = some ds) (hk : iterOk d = true) (hsz : ds.length <= 1000000)
  (htest : ∀ d ∈ ds, bY G X scope x glb σ.heap d fun X' σ' => TX G X' ct (fun b σ2 => b = c d /\ σ2 = σ') noPs σ')
  (helt : ∀ d ∈ ds, c d = true -> bY G X scope x glb σ.heap d fun X' σ' => EX G X' elt (fun d' σ2 => d' = f d /\ σ2 = σ') noPs σ')
  (k : ∀ s_2, Sh G s_2 -> CEnd G X W σ s_2 ((ds.filter c).map f) RR) :
  wpAny G.M X.A (pyIter v) (fun it' s_2 => wpAny G.M X.A (newList []) (fun acc s_3 => wpAny G.M X.A (newFunctionEnv scope X.env.globals [] [] X.env.qual none .none (some X.env)) (fun cenv s_4 =>
   codeAny G.M X.A (.compStart (.ListComp elt [⟨.Name x xp, it, [ct], 0⟩] scope pos) 0 it' acc { cenv with scope := relabel scope X.env }) (RR acc cenv.locals) s_4) E s_3) E s_2) E s := by
 obtain ⟨hcell, hkind, hnames, hx, hxd, hgk⟩ := et ok
 refine iter_ o R rv hi hk fun oI yy => ?_
 obtain ⟨fp, P, St, hfr, Wk, st0, hIo, hSt, hfp, hP⟩ := yy
 have sh := R.sh
 obtain ⟨⟨m, M, Q⟩, _⟩ := R
 have sh2 : Sh G { s with heap := s.heap.push oI } := ⟨sh.gens, sh.drawn, sh.os⟩
 refine LCt.block_T (m := m) (Fin := fun ys news => ∃ W' M, W.le W' /\ RVs G.P G.K W' ys ((ds.filter c).map f) /\ ((X.pins ++ (M ++ W'.Z)).map (·.1)).Nodup /\ Rend G.P G.K W' W'.α σ.heap M /\ news = X.pins ++ (M ++ W'.Z)) (news := X.pins ++ (M ++ W.Z)) (S := fun nw => ∀ p ∈ W.Z, p ∈ nw) (Wk X.A hh) (by rw [sizeLine_eq]; exact Om.hi hsz) hIo
  (fun i h h' ob nw st e e' keep N' S' => hSt i h h' ob st e e' fun b ob' kn => kn.elim (fun q => keep _ _ (o.kin _ _ q)) fun q => (N' _ (S' _ q)).1) hcell hkind hx st0 hfp
  (Q.fr.push _) (Q.nw.grown fun _ _ e => Heap.get?_push_of_some _ e) (Nat.ne_of_lt Q.fr.ns.lt) (next_is_new Q.fr) (fun p hp => Nat.ne_of_lt (Heap.lt_size (Q.nw p hp).1)) (fun p hp => List.mem_append_right _ (List.mem_append_right _ hp))
  (lv (W := W) o hf hh hkind hx hxd hgk hg sh2 hP htest helt (fun W' M ys l rs nd re => ⟨W', M, l, rs, nd, re, rfl⟩) _ 0 [] W M ((Om.q 1 0 (.e (.a .k0 .x0) .x0)) _) .rfl .nil Q.nod Q.re) ?_
 rintro D C h tk m' ys news' F' N' o1 hn hC₀ hD₀ hCL hDL hCD offC ⟨W', M', l, rs, nd, re, rfl⟩
 exact cend_ o hf Q.lc Q.st sh2 l rs nd re F' N' o1 hn hC₀ hCL hCD offC (k _ sh2)
theorem jF {r : List V} (hf : X.md = .fr) (s_2 : Shared) (h : Φ (.lst r) σ) : CEnd G X W σ s_2 r (compPost G.M X.A (EE G X Ψ) none (PV G X W Φ)) := by
 intro D C oC m' W' h' tk l hns rv R
 have N := let ⟨⟨m, M, Q⟩, _⟩ := R; Q.nw (C, oC) (.head _)
 refine ⟨m', hns.ns N.1, fun h'' hs => ⟨W', _, σ, l, rv, R.other (tk := tk) hf (fun b ob hb e => (hs.2 b (fun q => hb (by rw [q]; exact .head _))).trans e), h⟩⟩
theorem ex_comp0 {elt it : Expr} {x : Str} {xp pos : Pos} {scope : Scope} (glb : List (Str × V)) (f : V -> V) (o : X.Ok G) (hf : X.md = .fr) (hh : X.A.handled = none) (ok : cg scope x glb = true) (hg : Gls G glb) (hs : ∀ env y, foldedSetIterable it env y = pure y) (hclos : ∀ env, closureFor scope env = pure [])
  (h : EX G X it (fun d σ1 => ∃ ds, items d = some ds /\ iterOk d = true /\ ds.length <= 1000000 /\ (∀ d ∈ ds, bY G X scope x glb σ1.heap d fun X' σ' => EX G X' elt (fun d' σ2 => d' = f d /\ σ2 = σ') noPs σ') /\ Φ (.lst (ds.map f)) σ1) Ψ σ) :
  EX G X (.ListComp elt [⟨.Name x xp, it, [], 0⟩] scope pos) Φ Ψ σ := by
 intro W s R
 rw [eval_ListComp]
 obtain ⟨hcell, hkind, hnames, hx, hxd, hgk⟩ := et ok
 refine wpAny_comprehension_free (use := none) rfl (hs _) (hclos _) hkind hnames (wpAny_mono (h W s R) (fun v s_1 yy => ?_) fun _ _ e => e)
 obtain ⟨W1, d, σ1, l_1, rv, R_1, ds, hi, hk, hsz, helt, hΦ⟩ := yy
 refine gS o hf hh ok hg R_1 rv hi hk hsz helt fun s_2 _ => ?_
 intro D C oC m' W' h' tk l hns rv R
 have := jF (Ψ := Ψ) hf s_2 hΦ D C oC m' W' h' tk l hns rv R
 obtain ⟨m, a, b⟩ := this
 exact ⟨m, a, fun h'' hs => (b h'' hs).mono l_1 fun _ _ z => z⟩
theorem ex_comp1 {ct elt it : Expr} {x : Str} {xp pos : Pos} {scope : Scope} (glb : List (Str × V)) (c : V -> Bool) (f : V -> V) (o : X.Ok G) (hf : X.md = .fr) (hh : X.A.handled = none) (ok : cg scope x glb = true) (hg : Gls G glb) (hs : ∀ env y, foldedSetIterable it env y = pure y) (hclos : ∀ env, closureFor scope env = pure [])
  (h : EX G X it (fun d σ1 => ∃ ds, items d = some ds /\ iterOk d = true /\ ds.length <= 1000000 /\ (∀ d ∈ ds, bY G X scope x glb σ1.heap d fun X' σ' => TX G X' ct (fun b σ2 => b = c d /\ σ2 = σ') noPs σ') /\ (∀ d ∈ ds, c d = true -> bY G X scope x glb σ1.heap d fun X' σ' => EX G X' elt (fun d' σ2 => d' = f d /\ σ2 = σ') noPs σ') /\ Φ (.lst ((ds.filter c).map f)) σ1) Ψ σ) :
  EX G X (.ListComp elt [⟨.Name x xp, it, [ct], 0⟩] scope pos) Φ Ψ σ := by
 intro W s R
 rw [eval_ListComp]
 obtain ⟨hcell, hkind, hnames, hx, hxd, hgk⟩ := et ok
 refine wpAny_comprehension_free (use := none) rfl (hs _) (hclos _) hkind hnames (wpAny_mono (h W s R) (fun v s_1 yy => ?_) fun _ _ e => e)
 obtain ⟨W1, d, σ1, l_1, rv, R_1, ds, hi, hk, hsz, htest, helt, hΦ⟩ := yy
 refine gR o hf hh ok hg R_1 rv hi hk hsz htest helt fun s_2 _ => ?_
 intro D C oC m' W' h' tk l hns rv R
 have := jF (Ψ := Ψ) hf s_2 hΦ D C oC m' W' h' tk l hns rv R
 obtain ⟨m, a, b⟩ := this
 exact ⟨m, a, fun h'' hs => (b h'' hs).mono l_1 fun _ _ z => z⟩
theorem jE {r : List V} {y : Str} {yp : Pos} {l' : List (Str × Option V)} (o : X.Ok G) (hf : X.md = .fr) (s_2 : Shared) (hp : Put y (.lst r) σ.loc l') (h : ΦF .next { σ with loc := l' }) :
  CEnd G X W σ s_2 r (compPost G.M X.A (EE G X Ψ) (some (assign (.Name y yp) X.env)) fun _ s' => PF G X W ΦF .next s') := by
 intro D C oC m' W' h' tk l hns rv R
 show wpAny _ _ (assign (.Name y yp) X.env (.ref D)) _ _ _
 refine wpAny_assign_Name (fw (X := X.pin (C, oC)) o.pin hf hp rv R fun s' R' => ?_)
 have N := let ⟨⟨m, M, Q⟩, _⟩ := R'; Q.nw (C, oC) (.head _)
 refine ⟨m', hns.ns N.1, fun h'' hs => ⟨W', _, _, l, .next, R'.other (tk := s'.toks) hf (fun b ob hb e => (hs.2 b (fun q => hb (by rw [q]; exact .head _))).trans e), h⟩⟩
theorem sx_comp0 {elt it : Expr} {x y : Str} {xp yp pos spos : Pos} {scope : Scope} (glb : List (Str × V)) (f : V -> V) (o : X.Ok G) (hf : X.md = .fr) (hh : X.A.handled = none) (ok : cg scope x glb = true) (hg : Gls G glb) (hs : ∀ env y, foldedSetIterable it env y = pure y) (hclos : ∀ env, closureFor scope env = pure [])
  (hsw : swapsWith (.ListComp elt [⟨.Name x xp, it, [], 0⟩] scope pos) (some (.Name y yp)) spos.line X.env = pure true)
  (h : EX G X it (fun d σ1 => ∃ ds, items d = some ds /\ iterOk d = true /\ ds.length <= 1000000 /\ (∀ d ∈ ds, bY G X scope x glb σ1.heap d fun X' σ' => EX G X' elt (fun d' σ2 => d' = f d /\ σ2 = σ') noPs σ') /\ ∃ l', Put y (.lst (ds.map f)) σ1.loc l' /\ ΦF .next { σ1 with loc := l' }) Ψ σ) :
  SX G X (.Assign [.Name y yp] (.ListComp elt [⟨.Name x xp, it, [], 0⟩] scope pos) spos) ΦF Ψ σ := by
 intro W s R
 obtain ⟨hcell, hkind, hnames, hx, hxd, hgk⟩ := et ok
 rw [exec_Assign_Name_used _ _ _ _ hsw]
 refine wpAny_bind (wpAny_standAt (wpAny_bind ?_))
 show wpAny _ X.A (do let _ <- comprehension (.ListComp elt [⟨.Name x xp, it, [], 0⟩] scope pos) scope X.env _ (newList []) false (eval it X.env) (some (assign (.Name y yp) X.env))) _ _ s
 refine wpAny_bind (wpAny_mono (wpAny_comprehension_free (use := some (assign (.Name y yp) X.env)) (Q := fun _ s' => PF G X W ΦF .next s') rfl (hs _) (hclos _) hkind hnames
  (wpAny_mono (h W s R) (fun v s_1 yy => ?_) fun _ _ e => e)) (fun _ s' hq => wpAny_pure (wpAny_pure hq)) fun _ _ e => e)
 obtain ⟨W1, d, σ1, l_1, rv, R_1, ds, hi, hk, hsz, helt, l', hp, hΦ⟩ := yy
 refine gS o hf hh ok hg R_1 rv hi hk hsz helt fun s_2 _ => ?_
 intro D C oC m' W' h' tk l hns rv R
 refine wpAny_mono (jE (Ψ := Ψ) o hf s_2 hp hΦ D C oC m' W' h' tk l hns rv R) (fun _ s' z => ?_) fun _ _ z => z
 obtain ⟨m, a, b⟩ := z
 exact ⟨m, a, fun h'' hs => (b h'' hs).mono l_1 fun _ _ z => z⟩
theorem sx_comp1 {ct elt it : Expr} {x y : Str} {xp yp pos spos : Pos} {scope : Scope} (glb : List (Str × V)) (c : V -> Bool) (f : V -> V) (o : X.Ok G) (hf : X.md = .fr) (hh : X.A.handled = none) (ok : cg scope x glb = true) (hg : Gls G glb) (hs : ∀ env y, foldedSetIterable it env y = pure y) (hclos : ∀ env, closureFor scope env = pure [])
  (hsw : swapsWith (.ListComp elt [⟨.Name x xp, it, [ct], 0⟩] scope pos) (some (.Name y yp)) spos.line X.env = pure true)
  (h : EX G X it (fun d σ1 => ∃ ds, items d = some ds /\ iterOk d = true /\ ds.length <= 1000000 /\ (∀ d ∈ ds, bY G X scope x glb σ1.heap d fun X' σ' => TX G X' ct (fun b σ2 => b = c d /\ σ2 = σ') noPs σ') /\ (∀ d ∈ ds, c d = true -> bY G X scope x glb σ1.heap d fun X' σ' => EX G X' elt (fun d' σ2 => d' = f d /\ σ2 = σ') noPs σ') /\ ∃ l', Put y (.lst ((ds.filter c).map f)) σ1.loc l' /\ ΦF .next { σ1 with loc := l' }) Ψ σ) :
  SX G X (.Assign [.Name y yp] (.ListComp elt [⟨.Name x xp, it, [ct], 0⟩] scope pos) spos) ΦF Ψ σ := by
 intro W s R
 obtain ⟨hcell, hkind, hnames, hx, hxd, hgk⟩ := et ok
 rw [exec_Assign_Name_used _ _ _ _ hsw]
 refine wpAny_bind (wpAny_standAt (wpAny_bind ?_))
 show wpAny _ X.A (do let _ <- comprehension (.ListComp elt [⟨.Name x xp, it, [ct], 0⟩] scope pos) scope X.env _ (newList []) false (eval it X.env) (some (assign (.Name y yp) X.env))) _ _ s
 refine wpAny_bind (wpAny_mono (wpAny_comprehension_free (use := some (assign (.Name y yp) X.env)) (Q := fun _ s' => PF G X W ΦF .next s') rfl (hs _) (hclos _) hkind hnames
  (wpAny_mono (h W s R) (fun v s_1 yy => ?_) fun _ _ e => e)) (fun _ s' hq => wpAny_pure (wpAny_pure hq)) fun _ _ e => e)
 obtain ⟨W1, d, σ1, l_1, rv, R_1, ds, hi, hk, hsz, htest, helt, l', hp, hΦ⟩ := yy
 refine gR o hf hh ok hg R_1 rv hi hk hsz htest helt fun s_2 _ => ?_
 intro D C oC m' W' h' tk l hns rv R
 refine wpAny_mono (jE (Ψ := Ψ) o hf s_2 hp hΦ D C oC m' W' h' tk l hns rv R) (fun _ s' z => ?_) fun _ _ z => z
 obtain ⟨m, a, b⟩ := z
 exact ⟨m, a, fun h'' hs => (b h'' hs).mono l_1 fun _ _ z => z⟩
end
section
open PySem.Builtin PySem.Builtin.ObjectAttr
section
variable {nm q : Str} {C N : Addr} {bs bm : List Value} {hdct : Bool} {sn : List Str} {sub : List Value} {ab : Bool} {col : Option Bool} {dd : Option Addr} {k0 k1 k2 k3 k5 : Option Value} {newId B initId : String} {bmB : List Value}
structure Under (bm : List Value) : Prop where
 b : bm.contains (.type "Exception") = true
 base : bm.contains (.type "BaseException") = true
 noA : bm.contains (.type "AttributeError") = false
 noN : bm.contains (.type "NameError") = false
theorem kE {M : Model} {A : Around} {E : Value -> Shared -> Prop} {h : Heap} {g : Array GenState} {d : Drawn} {t : Nat} {os : OsState} {rest : List Value} {Q : Unit -> Shared -> Prop} (U : Under bm)
  (hC : h.get? C = some (excClassObj nm q C N bs bm hdct sn sub ab col dd k0 k1 k2 k3 k5 "Exception.__new__")) (hq : Q () ⟨h, g, d, t, os⟩) : wpAny M A (checkBuiltinCall "Exception.__new__" ⟨.ref C :: rest, []⟩) Q E ⟨h, g, d, t, os⟩ := by
 have Fn := PySem.F.excBase_Exception
 have hc : (Value.ref C :: bm).contains (.type "Exception") = true := by rw [List.contains_cons, U.b, Bool.or_true]
 simp only [checkBuiltinCall, Fn.newKind, Fn.newSplit, Fn.newRow]
 repeat (first | refine wpAny_loadPart_at hC ?_ | (refine wpAny_isSubtype_exc hC ?_; rw [hc]) | refine wpAny_staticBase_exc hC ?_ | refine wpAny_madeBy_exc hC ?_ | simp only [bne_self_eq_false, Bool.false_eq_true, if_false] | wp_step)
 exact hq
@[reducible] noncomputable def aS (C t : Addr) : Obj := { cls := .ref C, data := .fields #[.ref t, .none, .none, .none, .bool false, .none] }
noncomputable abbrev b8 (vs : List Value) : Obj := { cls := .type "tuple", data := .seq vs.toArray }
theorem word_new {prog : Program} {w : World} {A : Around} {R : Result -> Shared -> Prop} {h : Heap} {g : Array GenState} {d : Drawn} {t : Nat} {os : OsState} {rest : List Value} (U : Under bm)
  (hC : h.get? C = some (excClassObj nm q C N bs bm hdct sn sub ab col dd k0 k1 k2 k3 k5 "Exception.__new__")) (hrest : rest.length <= sizeLine)
  (hq : R (.ok (.ret (.ref (h.objs.size + 1)))) ⟨(h.push (b8 rest)).push (aS C h.objs.size), g, d, t, os⟩) : codeAny (model prog w) A (.builtin "Exception.__new__" ⟨.ref C :: rest, []⟩) R ⟨h, g, d, t, os⟩ := by
 have Fn := PySem.F.excBase_Exception
 have hends := Fn.ends
 have hcB : (Value.ref C :: bm).contains (.type "Exception") = true := by rw [List.contains_cons, U.b, Bool.or_true]
 have hcA : (Value.ref C :: bm).contains (.type "AttributeError") = false := by rw [List.contains_cons, U.noA]; rfl
 have hcN : (Value.ref C :: bm).contains (.type "NameError") = false := by rw [List.contains_cons, U.noN]; rfl
 refine codeAny_builtinAt Fn.entry ?_
 unfold Builtin.«BaseException.__new__»
 refine PySem.wpAt_bind ?_
 show PySem.wpAt _ _ _ (stack >>= _) _ _ _
 refine PySem.wpAt_bind (PySem.wpAt_stack fun p below => PySem.wpAt_of_wpAny ?_)
 wp_walk
 refine PySem.wpAt_of_wpAny ?_
 rw [Fn.owner]
 repeat (first | with_reducible refine wpAny_madeHere_exc Fn.canon hC ?_ | with_reducible refine wpAny_loadPart_at hC ?_ | (with_reducible refine wpAny_isSubtype_exc hC ?_; first | rw [hcB] | rw [hcA] | rw [hcN]) | wp_step)
 show R _ _
 rw [Heap.size_push]
 exact hq
theorem word_call {prog : Program} {w : World} {A : Around} {E : Value -> Shared -> Prop} {h : Heap} {g : Array GenState} {d : Drawn} {t : Nat} {os : OsState} {rest : List Value} {fI : Addr} {K : Frag} {Q : Value -> Shared -> Prop} (U : Under bm) (X : K.In h)
  (hCK : K.lookup C = some (excClassObj nm q C N bs bm hdct sn sub ab col dd k0 k1 k2 k3 k5 "Exception.__new__")) (hi : findIn K (.ref C) "__init__" = some (some (.ref fI))) (hf : typeIn K (.ref fI) = some (.type "function")) (hrest : rest.length <= sizeLine)
  (hq : wpAny (model prog w) (A.under (.builtin "type.__call__" ⟨.ref C :: rest, []⟩)) (call (.ref fI) (.ref (h.objs.size + 1) :: rest)) (fun r s' => r = .none /\ Q (.ref (h.objs.size + 1)) s') E ⟨(h.push (b8 rest)).push (aS C h.objs.size), g, d, t, os⟩) :
  wpAny (model prog w) A (call (.ref C) rest) Q E ⟨h, g, d, t, os⟩ := by
 have Fn := PySem.F.excBase_Exception
 have hC := X _ _ hCK
 have f1 := tc_lookup
 have f2 := tc_bind (.ref C)
 have hT : (⟨h, g, d, t, os⟩ : Shared).TypeIs (.ref C) "type" := ⟨_, hC, rfl⟩
 refine wpAny_call (codeAny_of_tree ?_)
 show wpAny _ _ (callAny (.ref C) _) _ _ _
 repeat (any_goals (first | assumption | with_reducible refine wpAny_loadPart_at hC ?_ | wp_step))
 refine ⟨rfl, ?_⟩
 refine codeAny_call_builtin_at (Code.quiet_builtin _ (by decide +kernel)) entry_typeCall (wpAny_check_type_call_sub hC ?_)
 repeat (first | with_reducible refine wpAny_loadPart_at hC ?_ | with_reducible refine wpAny_madeBy_exc hC ?_ | wp_step)
 refine codeAny_call_builtin_code (Code.quiet_builtin _ Fn.quiet) (kE U hC ?_)
 refine word_new U hC hrest ?_
 show wpAny _ _ _ _ _ _
 have k : ∀ b o, h.get? b = some o -> ((h.push (b8 rest)).push (aS C h.objs.size)).get? b = some o := fun b o e => Heap.get?_push_of_some _ (Heap.get?_push_of_some _ e)
 have hC1 := k _ _ hC
 have X1 := X.keeps k
 have hget : ((h.push (b8 rest)).push (aS C h.objs.size)).get? (h.objs.size + 1) = some (aS C h.objs.size) := by heap_get
 have hcC : (Value.ref C :: bm).contains (.ref C) = true := by simp
 unfold isInstance
 repeat (first | with_reducible refine wpAny_loadPart_at hget ?_ | wp_step)
 refine wpAny_isSubtype_exc hC1 ?_
 rw [hcC]
 repeat (first | with_reducible refine wpAny_loadPart_at hget ?_ | wp_step)
 show wpAny _ _ (typeLookup (.ref C) _) _ _ _
 refine (looks_findIn X1 hi).here ?_
 refine wpAny_holding (wpAny_bind ((bind_fn X1 _ hf).here ?_))
 refine wpAny_bind (wpAny_mono hq (fun r s' hr => ?_) fun _ _ x => x)
 obtain ⟨rfl, hQ⟩ := hr
 wp_walk
 exact hQ
end
end
section
open PySem.Builtin PySem.Builtin.ObjectAttr
section
variable {prog : Program} {w : World} {A : Around} {K : Frag} {C P x : Addr} {s : Shared} {R : Result -> Shared -> Prop} {E : Value -> Shared -> Prop}
theorem jC {ox : Obj} {od : Option Obj} {name : Str} {tk : Tok} {v : Value} {cd : ClassData} (X : K.In s.heap) (I : InstAt s.heap x ox C od) (hc : clsIn K C = some cd) (hmr : cd.mro = [.ref C, .ref P, .type "Exception", .type "BaseException", .type "object"]) (ht : takerIn K C name = some none)
  (h : ∀ b, wpAny (model prog w) A.in1 (storeInOwnDict (.ref x) (.ref C) (.str name tk) name v b)
   (fun fin s' => match fin with | .done f => R (.ok f) s' | .again c' => c'.quiet = true /\ codeAny (model prog w) A c' R s') (fun e s' => R (.error e) s') s) :
  codeAny (model prog w) A (.call (.builtin "object.__setattr__") ⟨[.ref x, .str name tk, v], []⟩) R s := by
 have SF := PySem.F.store_object
 have sub : Looks (model prog w) s.heap (isInstance (.ref x) (.type "object")) true := I.type.andThen (looks_mroIn X (by unfold mroIn; rw [hc, Option.bind_some, hmr]; rfl))
 refine codeAny_call_builtin SF.slot.plain SF.entry (@check_slot (model prog w) _ _ s "object.__setattr__" "object" "__setattr__" (.ref x) [.str name tk, v] [] _ SF.kind SF.split sub (SF.args (.ref x) (.str name tk) v) ?_)
 obtain ⟨attr, ha, hr⟩ := Option.bind_eq_some_iff.mp ht
 have hm : Looks (model prog w) s.heap (mroOf (.ref C)) cd.mro := (looks_clsIn X hc).andThen .now
 have L3 : Looks (model prog w) s.heap (storeTaker? attr) none := by
  cases attr with
  | none => exact .now
  | some a =>
   obtain ⟨b, hb, hb'⟩ := Option.map_eq_some_iff.mp hr
   cases b with
   | true => injection hb'
   | false => exact (looks_takesIn X hb).andThen .now
 rw [osa_eq, refuse_eq]
 refine wpAny_bind (wpAny_bind (I.type.here (wpAny_bind (hm.here ?_))))
 rw [hmr, refuseLoop_ref, refuseLoop_ref, PySem.F.store_Exception.passes]
 refine wpAny_pure (wpAny_bind (I.type.here (wpAny_bind ((looks_findIn X ha).here (wpAny_bind (L3.here ?_))))))
 exact h _
theorem kc (name : Str) (hsh : Int) (key v : Value) : Obj.putName name hsh key v emptyDict = dictOf [⟨hsh, key, v⟩] 1 := putName_dict name hsh key v [] 0
set_option tactic.hygienic true in
theorem look_ok {name : Str} {es : List DictEntry} (hl : (getL name es).isSome = true) : (!es.toArray.any (·.key.isStr name) && es.toArray.any (·.refKey)) = false := by
 rw [<- Array.any_toList, <- Array.any_toList]
 unfold getL at hl
 split at hl
 ·rename_i en he
  rw [List.any_eq_true.mpr ⟨en, List.mem_of_find?_eq_some he, List.find?_some he⟩]; rfl
 ·split at hl
  ·injection hl
  ·rename_i z; rw [Bool.not_eq_true] at z; rw [z, Bool.and_false]
theorem jd {M : Model} {dx : Addr} {es : List DictEntry} {n : Nat} {name : Str} {tk : Tok} {v : Value} {Q : PySem.Fin -> Shared -> Prop} (D : s.heap.get? dx = some (dictOf es n)) (hl : (getL name es).isSome = true) (hz : es.length <= 1000)
  (h : Q (.done (.ret .none)) { s with heap := s.heap.update dx (Obj.putName name (PyData.keyHash M.w.params name) (.str name s.toks) v), toks := s.toks + 1 }) : wpAny M A (storeInDict dx (.str name tk) name v) Q E s := by
 have D' : (s.heap.update dx (Obj.putName name (PyData.keyHash M.w.params name) (.str name s.toks) v)).get? dx = some (dictOf (putL name (PyData.keyHash M.w.params name) (.str name s.toks) v es) (putN name es n)) := by
  have e := putName_dict name (PyData.keyHash M.w.params name) (.str name s.toks) v es n
  exact e ▸ Heap.get?_update_self _ D (by rw [e]; rfl)
 refine wpAny_bind (wpAny_pure (wpAny_bind ?_))
 unfold nsSet
 refine wpAny_bind (wpAny_bind (wpAny_askSetting (wpAny_pure (wpAny_bind (wpAny_mkText (wpAny_bind (wpAny_loadPart D ?_)))))))
 dsimp only
 rw [aRefKeyMayBeTheName_at, look_ok hl]
 refine wpAny_updatePart D ?_
 refine wpAny_bind (wpAny_lookBehind D' (pastItsLine_dict ?_) ?_)
 ·rw [List.size_toArray, sizeLine_eq]
  have : (putL name (PyData.keyHash M.w.params name) (.str name s.toks) v es).length <= es.length + 1 := by
   clear hl D D' h
   induction es with
   | nil => simp [putL]
   | cons a r ih =>
    have hz' : r.length <= 1000 := by simp at hz; exact Om.hi hz
    unfold putL
    split
    ·simp
    ·have := ih hz'; simp; exact (Om.q 2 0 (.i (.l .x1 (.a .x0 .k1)) (.l .x1 (.a .x0 .k1)))) _ _ this
  exact (Om.q 2 0 (.i (.l .x1 (.k 1000)) (.i (.l .x0 (.a .x1 .k1)) (.l .x0 (.a (.k 16777216) .k1))))) _ _ hz this
 ·exact wpAny_pure h
theorem exc_put {ox : Obj} {dx : Addr} {es : List DictEntry} {n : Nat} {name : Str} {v : Value} {cd : ClassData} {Q : Unit -> Shared -> Prop} (X : K.In s.heap) (I : InstAt s.heap x ox C (some (dictOf es n))) (hd : ox.dict = some dx) (hs : findIn K (.ref C) "__setattr__" = some (some (.builtin "object.__setattr__")))
  (hc : clsIn K C = some cd) (hmr : cd.mro = [.ref C, .ref P, .type "Exception", .type "BaseException", .type "object"]) (hdict : cd.hasDict = true) (ht : takerIn K C name = some none) (hl : (getL name es).isSome = true) (hz : es.length <= 1000)
  (h : Q () { s with heap := s.heap.update dx (Obj.putName name (PyData.keyHash w.params name) (.str name (s.toks + 1)) v), toks := s.toks + 2 }) : wpAny (model prog w) A (setAttr (.ref x) name v) Q E s := by
 refine set_plain X I hs (jC (s := { s with toks := s.toks + 1 }) X I hc hmr ht fun b => ?_)
 obtain ⟨hx, hcl, hn, hdd⟩ := I
 obtain ⟨oc, odi, oda, osl⟩ := ox
 dsimp only at hcl hd hdd
 subst hcl hd
 refine wpAny_bind (wpAny_pure (wpAny_bind (wpAny_bind (wpAny_loadPart hx (wpAny_bind (Looks.here (s := { s with toks := s.toks + 1 }) (looks_clsIn X hc) ?_))))))
 rw [hdict]
 refine wpAny_pure (a := some dx) ?_
 exact jd (s := { s with toks := s.toks + 1 }) hdd hl hz h
theorem exc_make {ox : Obj} {name : Str} {v : Value} {cd : ClassData} {Q : Unit -> Shared -> Prop} (X : K.In s.heap) (I : InstAt s.heap x ox C none) (hd : ox.dict = none) (hfr : ox.isFreed = false) (hs : findIn K (.ref C) "__setattr__" = some (some (.builtin "object.__setattr__")))
  (hc : clsIn K C = some cd) (hmr : cd.mro = [.ref C, .ref P, .type "Exception", .type "BaseException", .type "object"]) (hdict : cd.hasDict = true) (ht : takerIn K C name = some none)
  (h : ∀ h', h'.get? x = some { ox with dict := some s.heap.objs.size } -> h'.get? s.heap.objs.size = some (dictOf [⟨PyData.keyHash w.params name, .str name (s.toks + 1), v⟩] 1) -> (∀ b o, b ≠ x -> s.heap.get? b = some o -> h'.get? b = some o) -> Q () { s with heap := h', toks := s.toks + 2 }) :
  wpAny (model prog w) A (setAttr (.ref x) name v) Q E s := by
 refine set_plain X I hs (jC (s := { s with toks := s.toks + 1 }) X I hc hmr ht fun b => ?_)
 obtain ⟨hx, hcl, hn, hdd⟩ := I
 obtain ⟨oc, odi, oda, osl⟩ := ox
 dsimp only at hcl hd hdd hfr h
 subst hcl hd
 refine wpAny_bind (wpAny_pure (wpAny_bind (wpAny_bind (wpAny_loadPart hx (wpAny_bind (Looks.here (s := { s with toks := s.toks + 1 }) (looks_clsIn X hc) ?_))))))
 rw [hdict]
 have hx1 : (s.heap.push emptyDict).get? x = some ⟨.ref C, none, oda, osl⟩ := Heap.get?_push_of_some _ hx
 have hne : x ≠ s.heap.objs.size := Nat.ne_of_lt (Heap.lt_size hx)
 have fin : wpAny (model prog w) A.in1 (do
   let d <- alloc emptyDict
   update x fun o => { o with dict := some d }
   dictMade (.ref C) x d) (fun a s' => wpAny (model prog w) A.in1 (match a with | some d => storeInDict d (.str name s.toks) name v | none => noDictFor (.ref x) (.ref C) name b)
    (fun fin s' => match fin with | .done f => (match (Except.ok f : Result) with | .ok (.ret _) => Q () s' | .ok _ => False | .error e => E e s') | .again c' => c'.quiet = true /\ codeAny (model prog w) A c' (fun r s' => match r with | .ok (.ret _) => Q () s' | .ok _ => False | .error e => E e s') s') (fun e s' => E e s') s') (fun e s' => E e s') { s with toks := s.toks + 1 } := by
  refine wpAny_bind (wpAny_alloc' (wpAny_bind (wpAny_update' hx1 (wpAny_pure ?_))))
  have hgd : ((s.heap.push emptyDict).update x fun o => { o with dict := some s.heap.objs.size }).get? s.heap.objs.size = some (dictOf [] 0) := (Heap.get?_update_ne _ _ _ _ hne.symm).trans (Heap.get?_push_at rfl rfl)
  refine jd (s := { s with heap := (s.heap.push emptyDict).update x fun o => { o with dict := some s.heap.objs.size }, toks := s.toks + 1 }) hgd rfl (by simp) ?_
  refine h _ ?_ ?_ ?_
  ·rw [Heap.get?_update_ne _ _ _ _ hne]
   refine Heap.get?_update_self _ hx1 ?_
   cases oda <;> first | rfl | exact hfr
  ·have e := kc name (PyData.keyHash w.params name) (.str name (s.toks + 1)) v
   exact e ▸ Heap.get?_update_self _ hgd (congrArg Obj.isFreed e)
  ·intro b ob hb e
   rw [Heap.get?_update_ne _ _ _ _ (Nat.ne_of_lt (Heap.lt_size e)), Heap.get?_update_ne _ _ _ _ hb]
   exact Heap.get?_push_of_some _ e
 cases oda <;> first | exact wpAny_bind fin | exact fin | injection hn
end
end
section
open PySem.Builtin PySem.Builtin.ObjectAttr
section
variable {prog : Program} {w : World} {A : Around} {E : Value -> Shared -> Prop} {h : Heap} {g : Array GenState} {d : Drawn} {t : Nat} {os : OsState}
variable {nm q : Str} {C N : Addr} {bs bm : List Value} {hdct : Bool} {sn : List Str} {sub : List Value} {ab : Bool} {col : Option Bool} {dd : Option Addr} {k0 k1 k2 k3 k5 : Option Value}
theorem lf {M : Model} {e : Addr} {oe : Obj} {rest : List Value} {Q : Unit -> Shared -> Prop} (U : Under bm) (hC : h.get? C = some (excClassObj nm q C N bs bm hdct sn sub ab col dd k0 k1 k2 k3 k5 "Exception.__new__")) (he : h.get? e = some oe) (hcls : oe.cls = .ref C) (hq : Q () ⟨h, g, d, t, os⟩) :
  wpAny M A (checkBuiltinCall "Exception.__init__" ⟨.ref e :: rest, []⟩) Q E ⟨h, g, d, t, os⟩ := by
 have F := PySem.F.excBase_Exception
 have hcB : (Value.ref C :: bm).contains (.type "Exception") = true := by rw [List.contains_cons, U.b, Bool.or_true]
 simp only [checkBuiltinCall, F.initKind, F.initSplit, F.initRow]
 repeat (first | (with_reducible refine wpAny_loadPart_at he ?_; rw [hcls]) | with_reducible refine wpAny_loadPart_at hC ?_ | (with_reducible refine wpAny_isSubtype_exc hC ?_; rw [hcB]) | wp_step)
 refine wpAny_onRaise ?_
 rw [show ∀ (a b : String) (n : Nat), Bind.check ⟨.positional, "*", "Exception", .self, [⟨"args", .varPos, false⟩]⟩ a b n (List.map (fun x => x.fst) ({ pos := Value.ref e :: rest } : Args).kw) = pure () from
  fun a b n => check_star_args _ _ _ _ _ _]
 exact wpAny_pure hq
theorem init_call {e tp : Addr} {v : Value} {Q : Value -> Shared -> Prop} (U : Under bm) (hC : h.get? C = some (excClassObj nm q C N bs bm hdct sn sub ab col dd k0 k1 k2 k3 k5 "Exception.__new__")) (he : h.get? e = some (aS C tp))
  (hq : ∀ h', h'.get? e = some (aS C h.objs.size) -> (∀ b o, b ≠ e -> h.get? b = some o -> h'.get? b = some o) -> Q .none ⟨h', g, d, t, os⟩) : wpAny (model prog w) A (call (.builtin "Exception.__init__") [.ref e, v]) Q E ⟨h, g, d, t, os⟩ := by
 have F := PySem.F.excBase_Exception
 refine wpAny_call (codeAny_call_builtin F.init.plain F.initEntry (lf U hC he rfl ?_))
 wp_walk
 refine hq _ ?_ ?_
 ·rw [Heap.get?_update_self _ (Heap.get?_push_of_some _ he) rfl]
  rfl
 ·intro b o hb hbo
  rw [Heap.get?_update_other _ _ (Ne.symm hb)]
  exact Heap.get?_push_of_some _ hbo
end
end
section
variable {G : Gx} {X : Fx} {σ : St} {W : Wd} {Ψ : Ps} {s : Shared}
noncomputable abbrev Fx.with (X : Fx) (P : List (Addr × Obj)) : Fx := { X with pins := P ++ X.pins }
theorem RelS.repin {P P' : List (Addr × Obj)} {h' : Heap} {tk : Nat} (r : RelS G (X.with P) W σ s) (hf : X.md = .fr) (k : ∀ b o, b ∉ P.map (·.1) -> s.heap.get? b = some o -> h'.get? b = some o) (hP : ∀ p ∈ P', h'.get? p.1 = some p.2 /\ (p.1 ∈ P.map (·.1) \/ s.heap.get? p.1 = none)) (nd : (P'.map (·.1)).Nodup) :
  RelS G (X.with P') W σ { s with heap := h', toks := tk } := by
 obtain ⟨⟨m, M, R⟩, S⟩ := r
 have NW : News X.h₀ X.L s.heap (P ++ X.pins ++ (M ++ W.Z)) := R.nw
 have ND : ((P ++ X.pins ++ (M ++ W.Z)).map (·.1)).Nodup := R.nod
 rw [List.append_assoc] at NW ND
 rw [List.map_append, List.nodup_append] at ND
 have FR := R.fr
 have oP : ∀ b ∈ P.map (·.1), b ≠ X.L /\ X.h₀.get? b = none := fun b hb => by
  obtain ⟨p, hp, rfl⟩ := List.mem_map.mp hb
  exact (NW p (List.mem_append_left _ hp)).2
 have F' : Fr X.h₀ X.L h' m := by
  obtain ⟨oL, es, ep, hL, rr⟩ := FR.ns
  exact ⟨⟨oL, es, ep, k _ _ (fun q => (oP _ q).1 rfl) hL, rr⟩, fun b o e => k _ _ (fun q => by rw [(oP _ q).2] at e; injection e) (FR.keep b o e), FR.above⟩
 have old : ∀ q ∈ X.pins ++ (M ++ W.Z), q.1 ∉ P.map (·.1) := fun q hq z => ND.2.2 _ z _ (List.mem_map_of_mem hq) rfl
 have hP' : ∀ p ∈ P', p.1 ≠ X.L /\ X.h₀.get? p.1 = none /\ ∀ q ∈ X.pins ++ (M ++ W.Z), q.1 ≠ p.1 := fun p hp => by
  rcases (hP p hp).2 with q | q
  ·exact ⟨(oP _ q).1, (oP _ q).2, fun r hr z => old r hr (z ▸ q)⟩
  ·refine ⟨fun z => ?_, ?_, fun r hr z => ?_⟩
   ·obtain ⟨oL, es, ep, hL, _⟩ := FR.ns
    rw [z, hL] at q; injection q
   ·cases e : X.h₀.get? p.1 with
    | none => rfl
    | some o => rw [FR.keep _ _ e] at q; injection q
   ·have := (NW r (List.mem_append_right _ hr)).1
    rw [z, q] at this; injection this
 refine ⟨⟨m, M, F', ?_, ?_, R.lc, R.re, ⟨R.st.nod, R.st.loc, R.st.glb⟩, ?_⟩, ⟨S.gens, S.drawn, S.os⟩⟩
 ·show News X.h₀ X.L h' (P' ++ X.pins ++ (M ++ W.Z))
  rw [List.append_assoc]
  intro q hq
  rcases List.mem_append.mp hq with hq | hq
  ·exact ⟨(hP q hq).1, (hP' q hq).1, (hP' q hq).2.1⟩
  ·have := NW q (List.mem_append_right _ hq)
   exact ⟨k _ _ (old q hq) this.1, this.2⟩
 ·show ((P' ++ X.pins ++ (M ++ W.Z)).map (·.1)).Nodup
  rw [List.append_assoc, List.map_append, List.nodup_append]
  refine ⟨nd, ND.2.1, fun a ha b hb e => ?_⟩
  obtain ⟨p, hp, rfl⟩ := List.mem_map.mp ha
  obtain ⟨q, hq, rfl⟩ := List.mem_map.mp hb
  exact (hP' p hp).2.2 q hq e.symm
 ·show match X.md with | .fr => True | .cp e _ mc => _
  rw [hf]; trivial
theorem Fx.Ok.with {P : List (Addr × Obj)} (o : X.Ok G) : (X.with P).Ok G := ⟨o.g, o.below, o.kind, o.frames, o.depth, o.units, o.ek, o.eg, o.eb⟩
inductive LeaveP (G : Gx) (X' X : Fx) (W : Wd) (σ : St) (R : Result -> Shared -> Prop) (fl : Flow) (s' : Shared) : Prop
 | mk (W' : Wd) (σ' : St) (P' : List (Addr × Obj)) (l : W.le W') (e : fl = .next) (r : RelS G (X'.with P') W' σ' s') (eh : σ'.heap = σ.heap) (k : ∀ s'', s''.heap = s'.heap -> RelS G (X.with P') W' σ s'' -> R (.ok (.ret .none)) s'')
theorem kx {A' : Around} {rm : Nat} {R : Result -> Shared -> Prop} {f : Addr} {x qual : Str} {params : Arguments} {body : List Stmt} {scope : Scope} {dV : Value} {vs : List Value} {kw : List (Str × Value)} {ws : List Value} {ds : List V} {names others : List Str} {glb : List (Str × V)} {P : List (Addr × Obj)}
  (o : X.Ok G) (hf : X.md = .fr) (hA : A'.frames = some (frs X)) (hd : A'.depth + 1 + rm < recursionLimit) (hu : A'.units + 3 + 8 * rm < cLine) (hfn : FnAt G.K f x qual params body scope dV)
  (hco : scope.isCoroutine = false) (hgen : scope.isGenerator = false) (hk : scope.kind = .function) (hcell : (scope.names.all fun x => x.2 != .cell) = true)
  (R₀ : RelS G (X.with P) W σ s) (rs : RVs G.P G.K W ws ds) (hlen : names.length = ds.length) (hnd : (names ++ others).Nodup)
  (hloc : okLoc scope (names ++ others) = true)
  (hbind : ∀ kV doc pm an cdv ct, BindsTo s (fnOf x qual params body scope dV kV doc pm an cdv ct) ⟨vs, kw⟩ (names.zip ws))
  (hg : ∀ p ∈ glb, (scope.names.lookup p.1 = some .globalImplicit /\ (p.1 == ("__debug__" : Str)) = false) /\ Gl G p.1 p.2)
  (hbody : ∀ (X' : Fx) (s' : Shared), X'.Ok G -> X'.md = .fr -> X'.A.handled = A'.handled -> X'.room = rm -> X'.scope = scope -> RelS G (X'.with P) W ⟨mkLoc names ds others, glb, σ.heap⟩ s' ->
   wpAny G.M X'.A (execs body X'.env) (LeaveP G X' X W σ R) (fun _ _ => False) s') :
  codeAny G.M A' (.call (.ref f) ⟨vs, kw⟩) R s := by
 obtain ⟨oc, od, osl, kV, doc, pm, an, cdv, ct, ho, hcd⟩ := hfn
 have hS := R₀.sh
 obtain ⟨⟨m, M, Q⟩, _⟩ := R₀
 have hll : ∀ y ∈ names ++ others, scope.names.lookup y = some .local /\ (y == ("__debug__" : Str)) = false := fun y hy => by
  have := List.all_eq_true.mp hloc y hy
  simp only [Bool.and_eq_true, beq_iff_eq, Bool.not_eq_true'] at this
  exact this
 refine code_def (A₀ := X.A₀) (base := G.base) (env := X.fenv) (outer := X.outer) o.below Q.fr o.kin Q.nw o.top hA rfl o.kind ho hcd ((Om.q 3 0 (.i (.t (.a (.a .x2 .k1) .x1) .x0) (.t .x2 .x0))) _ _ _ hd) (hbind _ _ _ _ _ _) (fun y hy => (hll y.1 (List.mem_append_left _ (List.of_mem_zip hy).1)).1) ?_ hco hgen hk (fun y hy q => by
  have := List.all_eq_true.mp hcell y hy
  rw [q] at this; injection this)
 intro g L' h_1 FG F' N' B' Kg Tg
 let X' : Fx := ⟨A', A'.deeper (envOf qual scope L' f cdv), frs X, g, L', f, qual, scope, cdv, rm, .fr, X.pins⟩
 have o' : X'.Ok G := ⟨o.g, B', hk, Around.frames_deeper hA, by show A'.depth + 1 + rm < _; exact hd, by show A'.units + 3 + 8 * rm < _; exact hu, hk, rfl, rfl⟩
 have keysE := mkLoc_keys (r := others) hlen
 have S' : RelS G (X'.with P) W ⟨mkLoc names ds others, glb, σ.heap⟩ { s with heap := h_1, toks := s.toks + (names.zip ws).length } := by
  refine ⟨⟨_, M, ⟨F', N', Q.nod, ?_, Q.re, ⟨?_, ?_, ?_⟩, trivial⟩⟩, ⟨hS.gens, hS.drawn, hS.os⟩⟩
  ·intro y d hm
   exact (mkLoc_look rs (List.nodup_append.mp hnd).1 hm).2
  ·rw [keysE]; exact hnd
  ·intro y hy
   rw [keysE] at hy
   exact hll y hy
  ·intro p hp
   exact ⟨(hg p hp).1.1, (hg p hp).1.2, (hg p hp).2⟩
 refine wpAny_mono (hbody X' _ o' rfl rfl rfl rfl S') (fun fl s' y => ?_) fun e s' y => y.elim
 obtain ⟨W', σ', P', l', rfl, R', hh, hR⟩ := y
 have hS' := R'.sh
 obtain ⟨⟨m', M', Q'⟩, _⟩ := R'
 refine leaveK_ Q'.fr Q'.nw fun FF NN => ?_
 refine hR s' rfl ⟨⟨m, M', ⟨FF, NN, Q'.nod, Q.lc.mono l', hh ▸ Q'.re, ⟨Q.st.nod, Q.st.loc, Q.st.glb⟩, ?_⟩⟩, hS'⟩
 show match X.md with | .fr => True | .cp e _ mc => _
 rw [hf]; trivial
theorem cwQ {q : Pos} {vf : Value} {first : List Value} {es : List Expr} {Q : Value -> Shared -> Prop} (o : X.Ok G) (hk : ∀ h : Heap, G.K.In h -> ∃ k, (k = Keeper.frame \/ k = Keeper.machine \/ k = Keeper.boundFrame) /\ Looks G.M h (keeperOf vf) k) (hp : ag es = true) (R : RelS G X W σ s)
  (h : AX G X q es (fun ds σ1 => ∀ W1 vs s_1, W.le W1 -> RVs G.P G.K W1 vs ds -> RelS G X W1 σ1 s_1 -> wpAny G.M X.A (call vf (first ++ vs)) Q (EE G X Ψ) s_1) Ψ σ) : wpAny G.M X.A (callWith q vf first (backTo q (starEach es X.env)) []) Q (EE G X Ψ) s := by
 refine callWith_of (P := fun h => G.K.In h) (by rw [dE hp]; rfl) (fun h x => hk h x) ?_
 have fin : ∀ vs s_1, PVs G X W (fun ds σ1 => ∀ W1 vs s_1, W.le W1 -> RVs G.P G.K W1 vs ds -> RelS G X W1 σ1 s_1 -> wpAny G.M X.A (call vf (first ++ vs)) Q (EE G X Ψ) s_1) vs s_1 -> G.K.In s_1.heap /\ wpAny G.M X.A (call vf (first ++ vs)) Q (EE G X Ψ) s_1 := by
  rintro vs s_1 ⟨W1, ds, σ1, l_1, rs, R_1, h_1⟩
  exact ⟨R_1.kin o, h_1 W1 vs s_1 l_1 rs R_1⟩
 cases es with
 | nil =>
  have z := h W s R
  unfold evalArgs
  show wpAny _ _ (spliced (backTo q (starEach [] X.env)) >>= _) _ _ _
  refine wpAny_bind (wpAny_mono z (fun vs s_1 y => ?_) fun _ _ y => y)
  refine wpAny_holding ?_
  exact wpAny_bind (wpAny_pure (wpAny_bind (wpAny_pure (wpAny_pure (fin vs s_1 y)))))
 | cons e r =>
  have hs : noStar e = true := by simp only [ag, List.all_cons, Bool.and_eq_true] at hp; exact hp.1
  have z := h W s R
  rw [bS hs] at z ⊢
  exact evalArgs_plain (wpAny_mono z (fun vs s_1 y => fin vs s_1 y) fun _ _ y => y)
end
structure WordD (G : Gx) where
 C : Addr
 P : Addr
 fI : Addr
 T : Addr
 tT : Tok
 dT : Option Addr
 nT : Nat
 slT : Array (Option Value)
 nm : Str
 q : Str
 N : Addr
 bs : List Value
 hdct : Bool
 sn : List Str
 sub : List Value
 ab : Bool
 col : Option Bool
 dd : Option Addr
 k0 : Option Value
 k1 : Option Value
 k2 : Option Value
 k3 : Option Value
 k5 : Option Value
 cd : ClassData
 gl : nsIn G.K mainGlobals "WordFault" = some (some (.ref C))
 keep : keepIn G.K (.ref C) = true
 cls : G.K.lookup C = some (excClassObj nm q C N bs [.ref P, .type "Exception", .type "BaseException", .type "object"] hdct sn sub ab col dd k0 k1 k2 k3 k5 "Exception.__new__")
 init : findIn G.K (.ref C) "__init__" = some (some (.ref fI))
 fn : typeIn G.K (.ref fI) = some (.type "function")
 at_ : FnAt G.K fI "__init__" "PostError.__init__" (dmAt 1 0).params (dmAt 1 0).body (dmAt 1 0).scope (.ref T)
 dflt : G.K.lookup T = some (aA "tuple" dT [.int (-1) tT] nT slT)
 set : findIn G.K (.ref C) "__setattr__" = some (some (.builtin "object.__setattr__"))
 ci : clsIn G.K C = some cd
 mro : cd.mro = [.ref C, .ref P, .type "Exception", .type "BaseException", .type "object"]
 dict : cd.hasDict = true
 t1 : takerIn G.K C "what" = some none
 t2 : takerIn G.K C "at" = some none
 ini : findCls G.K (.type "Exception") (.type "type") "__init__" = some (.val (.builtin "Exception.__init__"))
 exc : Gl G "Exception" (.val (.type "Exception"))
theorem eJ {P : Addr} : Under [.ref P, .type "Exception", .type "BaseException", .type "object"] := by
 constructor <;> simp [List.contains_cons] <;> decide
section
variable {G : Gx} {X : Fx} {σ : St} {W : Wd} {Ψ : Ps} {s : Shared}
noncomputable def aO (C tp dx : Addr) : Obj := { cls := .ref C, dict := some dx, data := .fields #[.ref tp, .none, .none, .none, .bool false, .none] }
noncomputable abbrev iσ (e : Addr) (w : V) (a : Int) (H : List (Option MO)) : St := ⟨[("self", some (.val (.ref e))), ("what", some w), ("at", some (.int a))], [("Exception", .val (.type "Exception"))], H⟩
theorem typeOf_exc : typeOf (.type "Exception") = pure (.type "type") := by rfl
theorem init_s1 (D : WordD G) {e tp : Addr} {w : V} {a : Int} {p1 p2 p3 p4 p5 p6 : Pos} {Q : Flow -> Shared -> Prop} (o : X.Ok G) (hf : X.md = .fr) (R : RelS G (X.with [(e, aS D.C tp)]) W (iσ e w a σ.heap) s)
  (he : ∃ pl : Env -> Sem Bool, ∀ env, eval (.Call (.Attribute (.Name "Exception" p1) "__init__" p2) [.Name "self" p3, .Name "what" p4] [] p5) env = (do
   let ov <- eval (.Name "Exception" p1) env
   standAt p2.atName
   let (f, first) <- holding [ov] (getMethod ov "__init__" (pl env))
   callWith p5 f first (backTo p5 (starEach [.Name "self" p3, .Name "what" p4] env)) (backToKw p5 (keywordEach [] env))))
  (k : ∀ W' tp' s', W.le W' -> RelS G (X.with [(e, aS D.C tp')]) W' (iσ e w a σ.heap) s' -> Q .next s') :
  wpAny G.M X.A (exec (.Expr (.Call (.Attribute (.Name "Exception" p1) "__init__" p2) [.Name "self" p3, .Name "what" p4] [] p5) p6) X.env) Q (EE G X noPs) s := by
 have hi : interactive X.env = false := by rw [dD hf]; show (X.scope.kind == .module && _) = false; rw [o.kind]; rfl
 have o' : (X.with [(e, aS D.C tp)]).Ok G := o.with
 have ek : (X.with [(e, aS D.C tp)]).env.scope.kind = .function := o'.ek
 rw [exec_Expr X.env _ _ hi (cE rfl)]
 refine wpAny_bind (wpAny_standAt (wpAny_bind ?_))
 have g1 : EX G (X.with [(e, aS D.C tp)]) (.Name "Exception" p1) (fun d σ1 => d = .val (.type "Exception") /\ σ1 = iσ e w a σ.heap) noPs (iσ e w a σ.heap) := fG o' .h0 ⟨rfl, rfl⟩
 obtain ⟨pl, he⟩ := he
 refine methodCall_KW (pl := pl X.env) (wpAny_mono (g1 W s R) (fun v s_1 yy => ?_) fun _ _ y => (cx y).elim) (he X.env)
 obtain ⟨W1, d, σ1, l_1, rv, R_1, e1, e2⟩ := yy
 subst e1 e2
 cases rv.inv
 have R1' := R_1
 obtain ⟨⟨m, M, Q1⟩, _⟩ := R1'
 refine method_type Q1.fr o.kin typeOf_exc rfl D.ini rfl ?_
 refine wpAny_mono (cwQ (X := X.with [(e, aS D.C tp)]) (Ψ := noPs) o' (fun h x => ⟨.machine, .inr (.inl rfl), Looks.of_pure rfl⟩) rfl R_1.tok ?_) (fun _ _ z => z) fun _ _ z => z.as
 refine bX rfl (cH ek .h0 (bX rfl (cH ek .h1 (eF ?_))))
 intro W_2 vs s_2 l_2 rs R_2
 cases rs.inv with
 | cons r1 rs =>
  cases rs.inv with
  | cons r2 rs =>
   cases rs.inv
   cases r1.inv
   have he : s_2.heap.get? e = some (aS D.C tp) := let ⟨⟨m, M, Q⟩, _⟩ := R_2; (Q.nw (e, _) (.head _)).1
   have hC := R_2.known o' (.inl D.cls)
   refine init_call eJ hC he fun h' e1 kk => ?_
   refine wpAny_dropValue (k W_2 s_2.heap.objs.size _ (l_1.trans l_2) ?_)
   refine R_2.repin hf (tk := s_2.toks) (fun b ob hb e => kk b ob (fun q => hb (by rw [q]; exact .head _)) e) (fun p hp => ?_) (by simp)
   rw [List.mem_singleton.mp hp]
   exact ⟨e1, .inl (.head _)⟩
end
section
variable {G : Gx} {X : Fx} {σ : St} {W : Wd} {Ψ : Ps} {s : Shared}
theorem init_s2 (D : WordD G) {e tp : Addr} {w : V} {a : Int} {p1 p2 p3 p4 : Pos} {Q : Flow -> Shared -> Prop} (o : X.Ok G) (hf : X.md = .fr) (R : RelS G (X.with [(e, aS D.C tp)]) W (iσ e w a σ.heap) s)
  (k : ∀ W' dx ent s', W.le W' -> (∃ hsh tk v, ent = ⟨hsh, .str "what" tk, v⟩) -> RelS G (X.with [(dx, dictOf [ent] 1), (e, aO D.C tp dx)]) W' (iσ e w a σ.heap) s' -> Q .next s') :
  wpAny G.M X.A (exec (.Assign [.Attribute (.Name "self" p1) "what" p2] (.Name "what" p3) p4) X.env) Q (EE G X noPs) s := by
 have o' : (X.with [(e, aS D.C tp)]).Ok G := o.with
 have ek : (X.with [(e, aS D.C tp)]).env.scope.kind = .function := o'.ek
 have g1 : EX G (X.with [(e, aS D.C tp)]) (.Name "what" p3) (fun d σ1 => d = w /\ σ1 = iσ e w a σ.heap) noPs (iσ e w a σ.heap) := cH ek .h1 ⟨rfl, rfl⟩
 have g2 : EX G (X.with [(e, aS D.C tp)]) (.Name "self" p1) (fun d σ1 => d = .val (.ref e) /\ σ1 = iσ e w a σ.heap) noPs (iσ e w a σ.heap) := cH ek .h0 ⟨rfl, rfl⟩
 refine plainObj_wpAny_Assign_Attribute (wpAny_mono (g1 W s R) (fun v s_1 yy => ?_) fun _ _ y => (cx y).elim) (hs := cE rfl)
 obtain ⟨W1, d, σ1, l_1, rv, R_1, e1, e2⟩ := yy
 subst e1 e2
 refine wpAny_mono (g2 W1 s_1 R_1) (fun ov s_2 yy => ?_) fun _ _ y => (cx y).elim
 obtain ⟨W_2, d2, σ2, l_2, rv2, R_2, e1, e2⟩ := yy
 subst e1 e2
 cases rv2.inv
 have he : s_2.heap.get? e = some (aS D.C tp) := let ⟨⟨m, M, Q⟩, _⟩ := R_2; (Q.nw (e, _) (.head _)).1
 have hlt : e ≠ s_2.heap.objs.size := Nat.ne_of_lt (Heap.lt_size he)
 refine exc_make (P := D.P) (R_2.kin o') ⟨he, rfl, rfl, trivial⟩ rfl rfl D.set D.ci D.mro D.dict D.t1 fun h' e1 e2 kk => ?_
 refine k W_2 s_2.heap.objs.size ⟨PyData.keyHash G.w.params "what", .str "what" (s_2.toks + 1), v⟩ _ (l_1.trans l_2) ⟨_, _, v, rfl⟩ (R_2.repin hf (tk := s_2.toks + 2) (fun b ob hb e => kk b ob (fun q => hb (by rw [q]; exact .head _)) e) (fun p hp => ?_) ?_)
 ·rcases List.mem_cons.mp hp with rfl | hp
  ·exact ⟨e2, .inr (Heap.get?_none_of_le (Nat.le_refl _))⟩
  ·rw [List.mem_singleton.mp hp]; exact ⟨e1, .inl (.head _)⟩
 ·simp only [List.map_cons, List.map_nil, List.nodup_cons, List.mem_singleton, List.not_mem_nil, not_false_eq_true, List.nodup_nil, and_true]
  exact Ne.symm hlt
theorem init_s3 (D : WordD G) {e tp dx : Addr} {w : V} {a : Int} {ent : DictEntry} {p1 p2 p3 p4 : Pos} {Q : Flow -> Shared -> Prop} (o : X.Ok G) (hf : X.md = .fr) (hent : ∃ hsh tk v, ent = ⟨hsh, .str "what" tk, v⟩) (R : RelS G (X.with [(dx, dictOf [ent] 1), (e, aO D.C tp dx)]) W (iσ e w a σ.heap) s)
  (k : ∀ W' es n t s', W.le W' -> getL "at" es = some (some (.int a t)) -> RelS G (X.with [(dx, dictOf es n), (e, aO D.C tp dx)]) W' (iσ e w a σ.heap) s' -> Q .next s') :
  wpAny G.M X.A (exec (.Assign [.Attribute (.Name "self" p1) "at" p2] (.Name "at" p3) p4) X.env) Q (EE G X noPs) s := by
 have o' : (X.with [(dx, dictOf [ent] 1), (e, aO D.C tp dx)]).Ok G := o.with
 have ek : (X.with [(dx, dictOf [ent] 1), (e, aO D.C tp dx)]).env.scope.kind = .function := o'.ek
 have g1 : EX G (X.with [(dx, dictOf [ent] 1), (e, aO D.C tp dx)]) (.Name "at" p3) (fun d σ1 => d = .int a /\ σ1 = iσ e w a σ.heap) noPs (iσ e w a σ.heap) := cH ek .h2 ⟨rfl, rfl⟩
 have g2 : EX G (X.with [(dx, dictOf [ent] 1), (e, aO D.C tp dx)]) (.Name "self" p1) (fun d σ1 => d = .val (.ref e) /\ σ1 = iσ e w a σ.heap) noPs (iσ e w a σ.heap) := cH ek .h0 ⟨rfl, rfl⟩
 refine plainObj_wpAny_Assign_Attribute (wpAny_mono (g1 W s R) (fun v s_1 yy => ?_) fun _ _ y => (cx y).elim) (hs := cE rfl)
 obtain ⟨W1, d, σ1, l_1, rv, R_1, e1, e2⟩ := yy
 subst e1 e2
 refine wpAny_mono (g2 W1 s_1 R_1) (fun ov s_2 yy => ?_) fun _ _ y => (cx y).elim
 obtain ⟨W_2, d2, σ2, l_2, rv2, R_2, e1, e2⟩ := yy
 subst e1 e2
 cases rv2.inv
 cases rv.inv with
 | int ta =>
 obtain ⟨hsh, tk, wv, rfl⟩ := hent
 have N : ∃ m M, RelAt G (X.with [(dx, dictOf [⟨hsh, .str "what" tk, wv⟩] 1), (e, aO D.C tp dx)]) W_2 (iσ e w a σ.heap) s_2.heap m M := R_2.rel
 obtain ⟨m, M, Q2⟩ := N
 have hd : s_2.heap.get? dx = some (dictOf [⟨hsh, .str "what" tk, wv⟩] 1) := (Q2.nw (dx, _) (.head _)).1
 have he : s_2.heap.get? e = some (aO D.C tp dx) := (Q2.nw (e, _) (.tail _ (.head _))).1
 have hne : dx ≠ e := fun q => by
  have := Q2.nod
  have this : ((dx, dictOf [⟨hsh, .str "what" tk, wv⟩] 1).1 :: (e, aO D.C tp dx).1 :: _).Nodup := this
  rw [List.nodup_cons] at this
  exact this.1 (by show dx ∈ e :: _; rw [q]; exact .head _)
 have hl : (getL "at" [(⟨hsh, .str "what" tk, wv⟩ : DictEntry)]).isSome = true := by rfl
 refine exc_put (P := D.P) (es := [⟨hsh, .str "what" tk, wv⟩]) (n := 1) (dx := dx) (R_2.kin o') ⟨he, rfl, rfl, hd⟩ rfl D.set D.ci D.mro D.dict D.t2 hl (by simp) ?_
 have e2 := putName_dict "at" (PyData.keyHash G.w.params "at") (.str "at" (s_2.toks + 1)) (.int a ta) [(⟨hsh, .str "what" tk, wv⟩ : DictEntry)] 1
 refine k W_2 (putL "at" (PyData.keyHash G.w.params "at") (.str "at" (s_2.toks + 1)) (.int a ta) [(⟨hsh, .str "what" tk, wv⟩ : DictEntry)]) (putN "at" [(⟨hsh, .str "what" tk, wv⟩ : DictEntry)] 1) ta _ (l_1.trans l_2) (by rfl) (R_2.repin hf (tk := s_2.toks + 2) (fun b ob hb e => (Heap.get?_update_ne _ _ _ _ (fun q => hb (by rw [q]; exact .head _))).trans e) (fun p hp => ?_) ?_)
 ·rcases List.mem_cons.mp hp with rfl | hp
  ·exact ⟨e2 ▸ Heap.get?_update_self _ hd (congrArg Obj.isFreed e2), .inl (.head _)⟩
  ·rw [List.mem_singleton.mp hp]; exact ⟨(Heap.get?_update_ne _ _ _ _ (Ne.symm hne)).trans he, .inl (.tail _ (.head _))⟩
 ·simp only [List.map_cons, List.map_nil, List.nodup_cons, List.mem_singleton, List.not_mem_nil, not_false_eq_true, List.nodup_nil, and_true]
  exact hne
end
section
variable {G : Gx} {X : Fx} {σ : St} {W : Wd} {Ψ : Ps} {s : Shared} {ΦF : Fl -> St -> Prop}
inductive WArgs (G : Gx) (W : Wd) (D : WordD G) : List Value -> Value -> Value -> Int -> Prop
 | two {v : Value} {a : Int} {t : Tok} : WArgs G W D [v, .int a t] v (.int a t) a
 | one {v : Value} : WArgs G W D [v] v (.int (-1) D.tT) (-1)
theorem WArgs.len {D : WordD G} {vs : List Value} {v v2 : Value} {a : Int} (h : WArgs G W D vs v v2 a) : vs.length <= 2 := by
 cases h
 ·exact Nat.le_refl 2
 ·exact Nat.le_succ 1
theorem WArgs.rv {D : WordD G} {vs : List Value} {v v2 : Value} {a : Int} (h : WArgs G W D vs v v2 a) {P : Params} {K : Frag} {W' : Wd} : RV P K W' v2 (.int a) := by
 cases h <;> exact .int _ _
theorem WArgs.binds {D : WordD G} {vs : List Value} {v v2 x : Value} {a : Int} (h : WArgs G W D vs v v2 a) {s : Shared} {kV doc pm cdv ct : Value} {an : Option Addr} (hT : s.heap.get? D.T = some (aA "tuple" D.dT [.int (-1) D.tT] D.nT D.slT)) :
  BindsTo s (fnOf "__init__" "PostError.__init__" (dmAt 1 0).params (dmAt 1 0).body (dmAt 1 0).scope (.ref D.T) kV doc pm an cdv ct) ⟨x :: vs, []⟩ (List.zip ["self", "what", "at"] [x, v, v2]) := by
 cases h
 ·exact .of_defaults (T := D.T) rfl hT rfl rfl rfl
 ·exact .of_defaults (T := D.T) rfl hT rfl rfl rfl
inductive InitP (G : Gx) (X : Fx) (D : WordD G) (W : Wd) (e : Addr) (w : V) (a : Int) (H : List (Option MO)) (fl : Flow) (s : Shared) : Prop
 | mk (W4 : Wd) (dx tp : Addr) (es : List DictEntry) (n : Nat) (t : Tok) (l : W.le W4) (h : fl = .next) (hat : getL "at" es = some (some (.int a t))) (R : RelS G (X.with [(dx, dictOf es n), (e, aO D.C tp dx)]) W4 (iσ e w a H) s)
theorem init_run (D : WordD G) {e tp : Addr} {w : V} {a : Int} (o : X.Ok G) (hf : X.md = .fr) (R : RelS G (X.with [(e, aS D.C tp)]) W (iσ e w a σ.heap) s) :
  wpAny G.M X.A (execs (dmAt 1 0).body X.env) (InitP G X D W e w a σ.heap) (EE G X noPs) s := by
 refine wpAny_execs_cons (init_s1 (σ := σ) D o hf R ⟨_, fun _ => rfl⟩ fun W2 tp s2 l2 R5 => ?_)
 refine wpAny_execs_cons (init_s2 (σ := σ) D o hf R5 fun W3 dx ent s3 l3 hent R6 => ?_)
 refine wpAny_execs_cons (init_s3 (σ := σ) D o hf hent R6 fun W4 es n t4 s4 l4 hat R7 => ?_)
 exact wpAny_execs_nil ⟨W4, dx, tp, es, n, t4, (l2.trans l3).trans l4, rfl, hat, R7⟩
theorem kF (D : WordD G) {vs : List Value} {v v2 : Value} {w : V} {a : Int} {Q : Value -> Shared -> Prop} {E : Value -> Shared -> Prop} (o : X.Ok G) (hf : X.md = .fr) (hr : 3 <= X.room) (R : RelS G X W σ s) (ha : WArgs G W D vs v v2 a) (rw_ : RV G.P G.K W v w)
  (k : ∀ W' e dx tp es n t s', W.le W' -> getL "at" es = some (some (.int a t)) -> RelS G (X.with [(dx, dictOf es n), (e, aO D.C tp dx)]) W' σ s' -> Q (.ref e) s') :
  wpAny G.M X.A (call (.ref D.C) vs) Q E s := by
 obtain ⟨h, g, d, t, os⟩ := s
 have hX : G.K.In h := R.kin o
 have hlen : vs.length <= sizeLine := Nat.le_trans ha.len (by rw [sizeLine_eq]; decide)
 refine word_call eJ hX D.cls D.init D.fn hlen ?_
 obtain ⟨R1, l1⟩ := R.rel.allocZ (b8 vs) rfl
 have R2 : RelS G X ⟨(h.objs.size, b8 vs) :: W.Z, W.α⟩ σ ⟨h.push (b8 vs), g, d, t, os⟩ := ⟨R1, ⟨R.sh.gens, R.sh.drawn, R.sh.os⟩⟩
 have R3 : RelS G (X.with [(h.objs.size + 1, aS D.C h.objs.size)]) ⟨(h.objs.size, b8 vs) :: W.Z, W.α⟩ σ ⟨(h.push (b8 vs)).push (aS D.C h.objs.size), g, d, t, os⟩ := R2.pin hf (by rw [Heap.size_push]) rfl
 have hT := R3.known o.with (.inl D.dflt)
 have rs : RVs G.P G.K ⟨(h.objs.size, b8 vs) :: W.Z, W.α⟩ [.ref (h.objs.size + 1), v, v2] [.val (.ref (h.objs.size + 1)), w, .int a] := by
  exact .cons (.val _) (.cons (rw_.mono l1) (.cons ha.rv .nil))
 refine wpAny_call (kx (rm := X.room - 3) (ws := [.ref (h.objs.size + 1), v, v2]) (names := ["self", "what", "at"]) (others := []) (glb := [("Exception", .val (.type "Exception"))]) o hf (show X.A.frames = _ from o.frames) ?_ ?_ D.at_ rfl rfl rfl rfl R3 rs rfl (by decide) (by rfl) ?_ (fE (by rfl) (.cons D.exc .nil)) ?_)
 ·have := o.depth
  show X.A.depth + 1 + 1 + (X.room - 3) < recursionLimit
  exact (Om.q 4 0 (.i (.l (.k 3) .x3) (.i (.t (.a .x2 .x3) .x1) (.i (.o (.a (.l (.k 3) .x3) (.e (.a .x0 (.k 3)) .x3)) (.a (.t .x3 (.k 3)) (.e .x0 .k0))) (.t (.a (.a (.a .x2 .k1) .k1) .x0) .x1))))) _ _ _ _ hr this (Om.sbo _ _)
 ·have := o.units
  show X.A.units + 1 + 3 + 8 * (X.room - 3) < cLine
  exact (Om.q 4 0 (.i (.l (.k 3) .x3) (.i (.t (.a .x2 (.m 8 .x3)) .x1) (.i (.o (.a (.l (.k 3) .x3) (.e (.a .x0 (.k 3)) .x3)) (.a (.t .x3 (.k 3)) (.e .x0 .k0))) (.t (.a (.a (.a .x2 .k1) (.k 3)) (.m 8 .x0)) .x1))))) _ _ _ _ hr this (Om.sbo _ _)
 ·exact fun kV doc pm an cdv ct => ha.binds hT
 ·intro X' s' o' hmd hh' hr' hsc R4
  have R4 : RelS G (X'.with [(h.objs.size + 1, aS D.C h.objs.size)]) ⟨(h.objs.size, b8 vs) :: W.Z, W.α⟩ (iσ (h.objs.size + 1) w a σ.heap) s' := R4
  have W0 : W.le ⟨(h.objs.size, b8 vs) :: W.Z, W.α⟩ := l1
  refine wpAny_mono (init_run D o' hmd R4) (fun fl s4 yy => ?_) fun _ _ y => (cx y).elim
  obtain ⟨W4, dx, tp, es, n, t4, l4, rfl, hat, R7⟩ := yy
  exact ⟨W4, _, _, l4, rfl, R7, rfl, fun s'' _ R8 => ⟨rfl, k W4 _ dx tp es n t4 s'' (W0.trans l4) hat R8⟩⟩
end
section
variable {nm q : Str} {C N : Addr} {bs bm : List Value} {hdct : Bool} {sn : List Str} {sub : List Value} {ab : Bool} {col : Option Bool} {dd : Option Addr} {k0 k1 k2 k3 k5 : Option Value}
inductive MadeP (C : Addr) (oC : Obj) (E : Value -> Shared -> Prop) (v : Value) (s : Shared) : Prop
 | mk (e t dx : Addr) (h1 : v = .ref e) (h2 : s.heap.get? C = some oC) (h3 : s.heap.get? e = some (aO C t dx)) (h4 : E (.ref e) s)
theorem kL {M : Model} {A : Around} {E : Value -> Shared -> Prop} {env : Env} {s : Shared} {y : Sem Value} {pos : Pos} {Q : Flow -> Shared -> Prop} {oC : Obj} (U : Under bm) (hh : A.handled = none)
  (hO : oC = excClassObj nm q C N bs bm hdct sn sub ab col dd k0 k1 k2 k3 k5 "Exception.__new__") (h : wpAny M A y (MadeP C oC E) E s) :
  wpAny M A (raiseStmt env (some (do let v <- y; standAt pos; pure v)) none) Q E s := by
 have hcB : (Value.ref C :: bm).contains (.type "BaseException") = true := by rw [List.contains_cons, U.base, Bool.or_true]
 unfold raiseStmt
 refine wpAny_bind (wpAny_bind (wpAny_mono h (fun v s_1 h_1 => wpAny_bind (wpAny_standAt (wpAny_pure ?_))) fun _ _ x => x))
 obtain ⟨e, t, dx, rfl, hC, he, hE⟩ := h_1
 subst hO
 obtain ⟨hp, g, d, tk, os⟩ := s_1
 unfold aO at he
 repeat (first | with_reducible refine wpAny_loadPart_at he ?_ | with_reducible refine wpAny_loadPart_at hC ?_ | (with_reducible refine wpAny_isSubtype_exc hC ?_; rw [hcB]) | wp_step)
 exact wpAny_raiseNew_none hh hE
end
section
variable {G : Gx} {X : Fx} {σ : St} {W : Wd} {Ψ : Ps} {s : Shared} {ΦF : Fl -> St -> Prop}
theorem raised_ (D : WordD G) {e dx tp : Addr} {es : List DictEntry} {n : Nat} {t : Tok} {a : Int} {s' : Shared} (o : X.Ok G) (hf : X.md = .fr) (R : RelS G (X.with [(dx, dictOf es n), (e, aO D.C tp dx)]) W σ s') (hat : getL "at" es = some (some (.int a t))) (hΨ : Ψ a σ.loc) : EE G X Ψ (.ref e) s' := by
 have sh := R.sh
 obtain ⟨⟨m, M, Q⟩, _⟩ := R
 refine ⟨a, σ.loc, hΨ, ?_, sh⟩
 have Ne : s'.heap.get? e = some (aO D.C tp dx) /\ e ≠ X.L /\ X.h₀.get? e = none := Q.nw (e, _) (.tail _ (.head _))
 have Nd : s'.heap.get? dx = some (dictOf es n) /\ dx ≠ X.L /\ X.h₀.get? dx = none := Q.nw (dx, _) (.head _)
 have hne : dx ≠ e := fun q => by
  have this : ((dx, dictOf es n).1 :: (e, aO D.C tp dx).1 :: _).Nodup := Q.nod
  rw [List.nodup_cons] at this
  exact this.1 (by show dx ∈ e :: _; rw [q]; exact .head _)
 have K' : Below (X.A₀.deeper X.fenv) G.base (frs X) s'.heap := o.below.push Q.fr o.kind
 have hin : ∀ env ∈ frs X, ∀ b, env.frame = some b -> b ∈ e :: (frs X).filterMap (·.frame) := fun env he b hb => .tail _ (List.mem_filterMap.mpr ⟨env, he, hb⟩)
 have frame_ne : ∀ b ∈ (frs X).filterMap (·.frame), ∀ o, s'.heap.get? b = some o -> ∀ vs, o.data ≠ .fields vs := fun b hb o ho => by
  obtain ⟨_, o', ho', hd⟩ := K'.frames.mem hb
  rw [ho'] at ho; obtain rfl := Option.some.inj ho; exact hd
 have base_none : ∀ b o, G.base.get? b = some o -> b ∉ e :: (frs X).filterMap (·.frame) := fun b ob q hm => by
  rcases List.mem_cons.mp hm with rfl | hm
  ·have := o.below.stays _ ob q
   rw [Ne.2.2] at this; injection this
  ·rw [(K'.frames.mem hm).1] at q; injection q
 refine ⟨e, hideAll s'.heap [e], m, hideAll s'.heap (e :: (frs X).filterMap (·.frame)), D.C, dx, es, n, t, rfl, ?_, imm_of (X := X) hf (by simpa [Lc, hf] using Q.lc), ?_, ?_, ?_, D.gl, ?_, hat, Nd.2, ?_⟩
 ·obtain ⟨oL, es', ep, hL, r⟩ := Q.fr.ns
  refine ⟨⟨oL, es', ep, hideAll_get _ hL (by simp only [List.mem_singleton]; exact Ne.2.1.symm), r⟩, fun b o q => hideAll_get _ (Q.fr.keep b o q) fun z => ?_, Q.fr.above⟩
  rw [List.mem_singleton.mp z, Ne.2.2] at q; injection q
 ·exact Heap.UpToSlots.of_keeps fun b o q => of_hideAll _ q
 ·exact fun b o q => hideAll_get _ (K'.stays b o q) (base_none b o q)
 ·intro b ob q hn
  have q' := of_hideAll _ q
  refine hideAll_get _ q' fun z => ?_
  rcases List.mem_cons.mp z with rfl | z
  ·rw [hideAll_none _ (.head _)] at q; injection q
  ·exact hn z
 ·refine hideAll_get _ Nd.1 fun z => ?_
  rcases List.mem_cons.mp z with z | z
  ·exact hne z
  ·obtain ⟨env, he, hfr⟩ := List.mem_filterMap.mp z
   rcases List.mem_cons.mp he with rfl | he
   ·exact Nd.2.1 (Option.some.inj hfr).symm
   ·obtain ⟨o', ho', _⟩ := (o.below.frames.mem (List.mem_filterMap.mpr ⟨env, he, hfr⟩)).2
    rw [Nd.2.2] at ho'; injection ho'
 ·exact ⟨fun b o q => of_hideAll _ q, hideAll_none _ (.head _), funFrames_hide K'.frames hin, _, _, Ne.1, rfl, rfl, rfl, by simp, .none (.inl rfl) rfl⟩
noncomputable def WordD.obj {G : Gx} (D : WordD G) : Obj := excClassObj D.nm D.q D.C D.N D.bs [.ref D.P, .type "Exception", .type "BaseException", .type "object"] D.hdct D.sn D.sub D.ab D.col D.dd D.k0 D.k1 D.k2 D.k3 D.k5 "Exception.__new__"
theorem made_get {D : WordD G} {e dx tp : Addr} {es : List DictEntry} {n : Nat} {s' : Shared} (R : RelS G (X.with [(dx, dictOf es n), (e, aO D.C tp dx)]) W σ s') : s'.heap.get? e = some (aO D.C tp dx) := by
 obtain ⟨⟨m, M, Q⟩, _⟩ := R
 exact (Q.nw (e, _) (.tail _ (.head _))).1
theorem sx_raise (D : WordD G) {np cpos pos : Pos} {args : List Expr} (o : X.Ok G) (hf : X.md = .fr) (hh : X.A.handled = none) (hr : 3 <= X.room) (hp : ag args = true) (hw : HasG "WordFault" (.glob "WordFault") σ.glb)
  (h : ∀ q, AX G X q args (fun ds σ1 => ∃ w a, (ds = [w, .int a] \/ (ds = [w] /\ a = -1)) /\ Ψ a σ1.loc) Ψ σ) : SX G X (.Raise (some (.Call (.Name "WordFault" np) args [] cpos)) none pos) ΦF Ψ σ := by
 intro W s R
 rw [arm_exec_Raise]
 refine wpAny_bind (wpAny_standAt ?_)
 refine kL (pos := pos) (y := eval (.Call (.Name "WordFault" np) args [] cpos) X.env) (C := D.C) (oC := D.obj) (eJ (P := D.P)) hh rfl ?_
 show wpAny _ _ (eval (.Name "WordFault" np) X.env >>= fun f => callWith cpos f [] (backTo cpos (starEach args X.env)) []) _ _ _
 have g1 : EX G X (.Name "WordFault" np) (fun d σ1 => d = .glob "WordFault" /\ σ1 = σ) Ψ σ := fG o hw ⟨rfl, rfl⟩
 refine seqV (g1 W s R) fun W1 vf f σ1 s_1 l_1 rf ⟨e1, e2⟩ R_1 => ?_
 subst e1 e2
 cases rf.inv with
 | glob hg hk =>
  rw [D.gl] at hg
  cases hg
  refine cwQ (Ψ := Ψ) (W := W1) o (fun h x => keeps_K hk h x) hp R_1 ?_
  intro W_2 s_2 R_2
  refine wpAny_mono (h cpos W_2 s_2 R_2) (fun vs s_3 ⟨W_3, ds, σ3, l_3, rs, R_3, w, a, hds, hΨ⟩ => ⟨W_3, ds, σ3, l_3, rs, R_3, ?_⟩) fun _ _ y => y
  intro W_4 vs4 s_4 l_4 rs4 R_4
  show wpAny G.M X.A (call (.ref D.C) vs4) _ _ _
  have fin : ∀ v v2, WArgs G W_4 D vs4 v v2 a -> RV G.P G.K W_4 v w -> wpAny G.M X.A (call (.ref D.C) vs4) (MadeP D.C D.obj (EE G X Ψ)) (EE G X Ψ) s_4 := fun v v2 ha rv =>
   kF D o hf hr R_4 ha rv fun W' e dx tp es n t s' l' hat R' => ⟨e, tp, dx, rfl, R'.known o.with (.inl D.cls), made_get R', raised_ D o hf R' hat hΨ⟩
  rcases hds with rfl | ⟨rfl, rfl⟩
  ·cases rs4.inv with
   | cons r1 rs =>
    cases rs.inv with
    | cons r2 rs =>
     cases rs.inv
     cases r2.inv
     exact fin _ _ .two r1
  ·cases rs4.inv with
   | cons r1 rs =>
    cases rs.inv
    exact fin _ _ .one r1
end
inductive ClsG (G : Gx) (c q : Str) (D : Df) (attrs : List Str) : Prop
 | mk (C fI : Addr) (h1 : nsIn G.K mainGlobals c = some (some (.ref C))) (h2 : keepIn G.K (.ref C) = true) (h3 : makesIn G.K C = true) (h4 : findIn G.K (.ref C) "__init__" = some (some (.ref fI))) (h5 : isFn G.K (.ref fI) = true)
 (h6 : FnAt G.K fI "__init__" q D.params D.body D.scope .none) (h7 : plainGet G.K C "" = true) (h8 : hasDictIn G.K C = true) (h9 : findIn G.K (.ref C) "__setattr__" = some (some (.builtin "object.__setattr__"))) (h10 : plainOver G.K C = true) (h11 : ∀ a ∈ attrs, takerIn G.K C a = some none /\ findIn G.K (.ref C) a = some none)
noncomputable def putF (name : Str) (d : V) : List (Str × V) -> List (Str × V)
 | [] => [(name, d)]
 | p :: r => if p.1 == name then (p.1, d) :: r else p :: putF name d r
theorem gl_cls {G : Gx} {c q : Str} {D : Df} {l : List Str} (h : ClsG G c q D l) : Gl G c (.glob c) := by
 obtain ⟨C, fI, h1, h2, _⟩ := h
 exact ⟨_, .inl h1, fun W => .glob h1 h2⟩
section
variable {P : Params} {K : Frag} {W : Wd}
theorem RFs.put {name : Str} {hsh : Int} {t : Tok} {v : Value} {d : V} (hv : RV P K W v d) : ∀ {es : List DictEntry} {fs : List (Str × V)}, RFs P K W es fs -> RFs P K W (putL name hsh (.str name t) v es) (putF name d fs) := by
 intro es fs
 induction fs generalizing es with
 | nil => intro h; cases h; exact .cons hv .nil
 | cons p fs ih =>
  intro h
  cases h with
  | @cons x _ _ _ _ _ _ h r =>
   show RFs P K W (if (x == name) = true then _ else _) (if (x == name) = true then _ else _)
   by_cases hx : (x == name) = true
   ·rw [if_pos hx, if_pos hx]; exact .cons hv r
   ·rw [if_neg hx, if_neg hx]; exact .cons h (ih r)
theorem RFs.noRef : ∀ {es : List DictEntry} {fs : List (Str × V)}, RFs P K W es fs -> es.any (·.refKey) = false
 | _, _, .nil => rfl
 | _, _, .cons h r => by rw [List.any_cons, r.noRef]; rfl
noncomputable def getF (name : Str) : List (Str × V) -> Option V
 | [] => none
 | p :: r => if p.1 == name then some p.2 else getF name r
theorem RFs.find {name : Str} : ∀ {es : List DictEntry} {fs : List (Str × V)}, RFs P K W es fs -> match getF name fs with
  | some d => ∃ e, es.find? (·.key.isStr name) = some e /\ RV P K W e.val d
  | none => es.find? (·.key.isStr name) = none
 | _, _, .nil => rfl
 | _, _, .cons (x := x) (t := t') (hsh := hs') (v := v') (d := d') (es := es) (fs := fs) h r => by
  have ih := r.find (name := name)
  rw [List.find?_cons]
  have e1 : getF name ((x, d') :: fs) = if (x == name) = true then some d' else getF name fs := rfl
  have e2 : (Value.str x t').isStr name = (x == name) := rfl
  rw [e1]
  simp only [e2]
  cases hx : (x == name) with
  | true => exact ⟨_, rfl, h⟩
  | false => simpa using ih
theorem RFs.look {name : Str} {es : List DictEntry} {fs : List (Str × V)} (r : RFs P K W es fs) {d : V} (h : getF name fs = some d) : ∃ v, getL name es = some (some v) /\ RV P K W v d := by
 have := r.find (name := name)
 rw [h] at this
 obtain ⟨e, he, hv⟩ := this
 exact ⟨_, by unfold getL; rw [he], hv⟩
theorem RFs.look0 {name : Str} {es : List DictEntry} {fs : List (Str × V)} (r : RFs P K W es fs) (h : getF name fs = none) : getL name es = some none := by
 have := r.find (name := name)
 rw [h] at this
 have this : es.find? (·.key.isStr name) = none := this
 unfold getL
 rw [this, r.noRef]; rfl
theorem RFs.lookS {name : Str} {es : List DictEntry} {fs : List (Str × V)} (r : RFs P K W es fs) : (getL name es).isSome = true := by
 cases h : getF name fs with
 | none => rw [r.look0 h]; rfl
 | some d => obtain ⟨v, e, _⟩ := r.look h; rw [e]; rfl
theorem RFs.len : ∀ {es : List DictEntry} {fs : List (Str × V)}, RFs P K W es fs -> es.length = fs.length
 | _, _, .nil => rfl
 | _, _, .cons _ r => by simp [r.len]
noncomputable def plainV : V -> Bool
 | .val _ => false
 | .glob _ => false
 | .meth _ _ => false
 | _ => true
theorem ix {v : Value} {d : V} (r : RV P K W v d) (h : plainV d = true) : handedIn v = true := by
 cases d <;> first | (cases r.inv; rfl) | injection h
end
section
variable {G : Gx} {X : Fx} {σ : St} {W : Wd} {Ψ : Ps} {s : Shared} {Φ : V -> St -> Prop} {ΦF : Fl -> St -> Prop}
inductive InstD (G : Gx) (X : Fx) (W : Wd) (σ : St) (s : Shared) (i : Nat) (c : Str) (fs : List (Str × V)) (va : Value) : Prop
 | mk (x dx C : Addr) (es : List DictEntry) (n : Nat) (pre post : List (Addr × Obj)) (e : va = .ref x) (hC : nsIn G.K mainGlobals c = some (some (.ref C))) (rs : RFs G.P G.K W es fs) (I : InstAt s.heap x (instObj C dx) C (some (dictOf es n)))
  (m : Str -> Option Value) (F : Fr X.h₀ X.L s.heap m) (N : News X.h₀ X.L s.heap (pre ++ (dx, dictOf es n) :: post)) (a : ∀ p ∈ pre, p.1 ≠ dx) (b : ∀ p ∈ post, p.1 ≠ dx)
  (k : ∀ h' es' n' fs' tk, Fr X.h₀ X.L h' m -> News X.h₀ X.L h' (pre ++ (dx, dictOf es' n') :: post) -> RFs G.P G.K W es' fs' -> RelS G X W { σ with heap := σ.heap.set i (some (.inst c fs')) } { s with heap := h', toks := tk })
theorem iq {i : Nat} {c : Str} {fs : List (Str × V)} {va : Value} (o : X.Ok G) (R : RelS G X W σ s) (hi : σ.heap[i]? = some (some (.inst c fs))) (ra : RV G.P G.K W va (.loc i)) :
  InstD G X W σ s i c fs va := by
 obtain ⟨x, dx, C, es, n, pre, post, h1, h2, h3, m, F, N, hx, a, b, k⟩ := R.rel.setInst hi
 cases ra.inv with
 | loc e =>
  rw [h1] at e; obtain rfl := Option.some.inj e
  refine ⟨x, dx, C, es, n, pre, post, rfl, h2, h3, ⟨(N _ (List.mem_append_left _ hx)).1, rfl, rfl, (N _ (List.mem_append_right _ (.head _))).1⟩, m, F, N, a, b, fun h' es' n' fs' tk F' N' r => ⟨k h' es' n' fs' F' N' r, ⟨R.sh.gens, R.sh.drawn, R.sh.os⟩⟩⟩
theorem ga_inst {i : Nat} {c q name : Str} {D : Df} {l : List Str} {fs : List (Str × V)} {d : V} (o : X.Ok G) (hc : ClsG G c q D l) (hn : name ∈ l) (hi : σ.heap[i]? = some (some (.inst c fs))) (hd : getF name fs = some d) (hp : plainV d = true) (h : Φ d σ) : GA G X (.loc i) name Φ Ψ σ := by
 intro W va ra s R
 obtain ⟨x, dx, C, es, n, pre, post, rfl, hC, rs, I, m, F, -⟩ := iq o R hi ra
 obtain ⟨C', fI, c1, c2, c3, c4, c5, c6, c7, c8, c9, c10, c11⟩ := hc
 rw [hC] at c1; cases c1
 obtain ⟨v, hv, rv⟩ := rs.look hd
 exact get_own (F := F) o.kin I c7 c8 (c11 name hn).2 rfl hv (ix rv hp) ⟨W, d, σ, .rfl, rv, R.tok, h⟩
theorem cP {i : Nat} {c q name mq : Str} {D Dm : Df} {l : List Str} {fs : List (Str × V)} (o : X.Ok G) (hc : ClsG G c q D l) (hm : MthG G c name mq Dm) (hi : σ.heap[i]? = some (some (.inst c fs))) (hd : getF name fs = none) : GM G X (.loc i) name (.meth c name) [.loc i] σ := by
 intro W va ra s R pl Q E k
 obtain ⟨x, dx, C, es, n, pre, post, rfl, hC, rs, I, m, F, -⟩ := iq o R hi ra
 obtain ⟨C', fI, c1, c2, c3, c4, c5, c6, c7, c8, c9, c10, c11⟩ := hc
 obtain ⟨C2, f, m1, m2, m3, m4, hfn⟩ := hm
 rw [hC] at c1 m1; cases c1; cases m1
 exact method_inst (F := F) o.kin I c7 m2 hfn (rs.look0 hd) (k _ _ (.meth hC m2 m4) (.cons ra .nil))
end
section
variable {G : Gx} {X : Fx} {σ : St} {W : Wd} {Ψ : Ps} {s : Shared} {Φ : V -> St -> Prop} {ΦF : Fl -> St -> Prop}
theorem jk (name : Str) (hsh : Int) (key v : Value) : ∀ (es : List DictEntry), (putL name hsh key v es).length <= es.length + 1
 | [] => by simp [putL]
 | a :: r => by
  unfold putL
  split
  ·simp
  ·have := jk name hsh key v r; simp; exact (Om.q 2 0 (.i (.l .x1 (.a .x0 .k1)) (.l .x1 (.a .x0 .k1)))) _ _ this
theorem gI {oe e : Expr} {name c q : Str} {D : Df} {l : List Str} {p2 pos : Pos} (o : X.Ok G) (hn : notComp e = true) (hc : ClsG G c q D l) (hl : name ∈ l)
  (h : EX G X e (fun d σ1 => EX G X oe (fun r σ2 => ∃ i fs, r = .loc i /\ σ2.heap[i]? = some (some (.inst c fs)) /\ fs.length <= 100 /\ ΦF .next { σ2 with heap := σ2.heap.set i (some (.inst c (putF name d fs))) }) Ψ σ1) Ψ σ) :
  SX G X (.Assign [.Attribute oe name p2] e pos) ΦF Ψ σ := by
 intro W s R
 refine plainObj_wpAny_Assign_Attribute (wpAny_mono (h W s R) (fun v s_1 yy => ?_) fun _ _ y => y) (hs := cE hn)
 obtain ⟨W1, d, σ1, l_1, rv, R_1, h_1⟩ := yy
 refine wpAny_mono (h_1 W1 s_1 R_1) (fun ov s_2 yy => ?_) fun _ _ y => y
 obtain ⟨W_2, r, σ2, l_2, rr, R_2, i, fs, er, hi, hlen, hΦ⟩ := yy
 subst er
 obtain ⟨x, dx, C, es, n, pre, post, rfl, hC, rs, I, m, F, N, na, nb, k⟩ := iq o R_2 hi rr
 obtain ⟨C', fI, c1, c2, c3, c4, c5, c6, c7, c8, c9, c10, c11⟩ := hc
 rw [hC] at c1; cases c1
 have tk := (c11 name hl).1
 refine set_plain (o.kin.keeps F.keep) I c9 (osa_dict (s := { s_2 with toks := s_2.toks + 1 }) F N (o.kin.keeps F.keep) I rfl c10 tk c8 (rs.lookS) na nb (putName_dict _ _ _ _ _ _) rfl ?_ fun h' F' N' => ?_)
 ·have := jk name (PyData.keyHash G.w.params name) (.str name (s_2.toks + 1)) v es
  have := rs.len
  show (putL name (PyData.keyHash G.w.params name) (.str name (s_2.toks + 1)) v es).length <= 1000
  exact (Om.q 3 0 (.i (.l .x2 (.k 100)) (.i (.l .x1 (.a .x0 .k1)) (.i (.e .x0 .x2) (.l .x1 (.k 1000)))))) _ _ _ hlen (by assumption) this
 ·exact ⟨W_2, _, _, l_1.trans l_2, .next, k h' _ _ _ (s_2.toks + 2) F' N' (RFs.put (rv.mono l_2) rs), hΦ⟩
theorem iP {c m q : Str} {D : Df} {names others : List Str} {ds : List V} {glb : List (Str × V)} (o : X.Ok G) (hr : 1 <= X.room) (fn : MthG G c m q D) (hfr : X.md = .fr \/ ∀ a, ¬ Ψ a σ.loc)
  (dk : DefOk m q D names others ds.length glb) (hg : Gls G glb)
  (hbody : ∀ X', X'.Ok G -> X'.md = .fr -> X'.A.handled = X.A.handled -> X'.room = X.room - 1 -> X'.scope = D.scope -> af σ.heap.length σ.heap = true -> SSX G X' D.body (CallPost σ Φ) (fun a _ => Ψ a σ.loc) ⟨mkLoc names ds others, glb, σ.heap⟩) :
  aR G X (.meth c m) ds Φ Ψ σ := by
 obtain ⟨hp, hb, hlen, hnd, hloc, hgk⟩ := dk
 intro W vf vs rf rs s R
 cases rf.inv with
 | meth h hf hk =>
  obtain ⟨C, f, h1, h2, h3, h4, h5⟩ := fn
  rw [h1] at h; cases h
  rw [h2] at hf; cases hf
  simp only [cF, Bool.and_eq_true, Bool.not_eq_true', beq_iff_eq] at hp
  refine wpAny_call (eQ (rm := X.room - 1) (Φ := Φ) o o.frames (by have := o.depth; exact (Om.q 4 0 .f50) _ _ _ _ hr this (Om.sbo _ _)) (by have := o.units; exact (Om.q 4 0 .f51) _ _ _ _ hr this (Om.sbo _ _)) h3 hp.1.1.1 hp.1.1.2 hp.1.2 hp.2 R rs hlen hnd hloc
   (fun kV doc pm an cdv ct => .of_eq (hb kV doc pm an cdv ct vs (by rw [rs.length, hlen]))) (fE hgk hg) hfr hbody ?_ ?_)
  ·intro v d W1 σ1 s_1 l_1 r_1 R_1 hΦ
   exact ⟨W1, d, σ1, l_1, r_1, R_1, hΦ⟩
  ·intro e s_1 h; exact h
theorem jg {h' : Heap} {x dx C : Addr} {c : Str} {m : Str -> Option Value} {M : List (Addr × Obj)} (hC : nsIn G.K mainGlobals c = some (some (.ref C))) (Q : RelAt G X W σ s.heap m M) (sh : Sh G s) (F' : Fr X.h₀ X.L h' m) (N' : News X.h₀ X.L h' ((x, instObj C dx) :: (dx, dictOf [] 0) :: (X.pins ++ (M ++ W.Z))))
  (hlt : ∀ p ∈ X.pins ++ (M ++ W.Z), p.1 < dx) (hx : dx < x) :
  RelS G X ⟨W.Z, W.α ++ [x]⟩ { σ with heap := σ.heap ++ [some (.inst c [])] } { s with heap := h' } /\ W.le ⟨W.Z, W.α ++ [x]⟩ /\ RV G.P G.K ⟨W.Z, W.α ++ [x]⟩ (.ref x) (.loc σ.heap.length) := by
 have l : W.le ⟨W.Z, W.α ++ [x]⟩ := ⟨fun p hp => hp, fun i a e => by
  obtain ⟨hi, _⟩ := List.getElem?_eq_some_iff.mp e
  show (W.α ++ [x])[i]? = _
  rw [List.getElem?_append_left hi]; exact e⟩
 have pm : (X.pins ++ (M ++ [(x, instObj C dx), (dx, dictOf [] 0)] ++ W.Z)).Perm ((x, instObj C dx) :: (dx, dictOf [] 0) :: (X.pins ++ (M ++ W.Z))) := by
  have : X.pins ++ (M ++ [(x, instObj C dx), (dx, dictOf [] 0)] ++ W.Z) = (X.pins ++ M) ++ ((x, instObj C dx) :: (dx, dictOf [] 0) :: W.Z) := by simp
  rw [this]
  refine List.perm_middle.trans (List.Perm.cons _ (List.perm_middle.trans (List.Perm.cons _ ?_)))
  rw [List.append_assoc]
 refine ⟨⟨⟨m, M ++ [(x, instObj C dx), (dx, dictOf [] 0)], F', fun p hp => N' p (pm.mem_iff.mp hp), ?_, Q.lc.mono l, (Q.re.mono l).snoc (.inst hC .nil), ⟨Q.st.nod, Q.st.loc, Q.st.glb⟩, Q.cp⟩, ⟨sh.gens, sh.drawn, sh.os⟩⟩, l, .loc ?_⟩
 ·refine (pm.map _).nodup_iff.mpr ?_
  simp only [List.map_cons, List.nodup_cons, List.mem_cons, not_or]
  refine ⟨⟨Nat.ne_of_gt hx, fun q => ?_⟩, fun q => ?_, Q.nod⟩
  ·obtain ⟨p, hp, e⟩ := List.mem_map.mp q
   have := hlt p hp
   rw [e] at this; exact absurd (Nat.lt_trans hx this) (Nat.lt_irrefl _)
  ·obtain ⟨p, hp, e⟩ := List.mem_map.mp q
   have := hlt p hp
   rw [e] at this; exact absurd this (Nat.lt_irrefl _)
 ·show (W.α ++ [x])[_]? = _
  rw [<- Q.re.len]; simp
theorem call_new {c q : Str} {D : Df} {l names others : List Str} {ds : List V} {glb : List (Str × V)} (o : X.Ok G) (hr : 2 <= X.room) (hc : ClsG G c q D l) (hf : X.md = .fr)
  (dk : DefOk "__init__" q D names others (ds.length + 1) glb) (hg : Gls G glb)
  (hbody : ∀ X', X'.Ok G -> X'.md = .fr -> X'.A.handled = X.A.handled -> X'.room = X.room - 2 -> X'.scope = D.scope -> af (σ.heap.length + 1) (σ.heap ++ [some (.inst c [])]) = true ->
   SSX G X' D.body (CallPost { σ with heap := σ.heap ++ [some (.inst c [])] } (fun d σ1 => d = .none /\ Φ (.loc σ.heap.length) σ1)) (fun a _ => Ψ a σ.loc) ⟨mkLoc names (.loc σ.heap.length :: ds) others, glb, σ.heap ++ [some (.inst c [])]⟩) :
  aR G X (.glob c) ds Φ Ψ σ := by
 obtain ⟨hp, hb, hlen, hnd, hloc, hgk⟩ := dk
 intro W vf vs rf rs s R
 cases rf.inv with
 | glob h hk =>
  obtain ⟨C, fI, c1, c2, c3, c4, c5, c6, c7, c8, c9, c10, c11⟩ := hc
  rw [c1] at h; cases h
  simp only [cF, Bool.and_eq_true, Bool.not_eq_true', beq_iff_eq] at hp
  have R' := R
  obtain ⟨⟨m, M, Q⟩, sh⟩ := R'
  refine call_cls Q.fr o.kin Q.nw c3 c4 c5 fun x dx h' F' N' hlt hx => ?_
  obtain ⟨R1, l1, rx⟩ := jg (s := s) c1 Q sh F' N' hlt hx
  refine eQ (rm := X.room - 2) (σ := { σ with heap := σ.heap ++ [some (.inst c [])] }) (Φ := fun d σ1 => d = .none /\ Φ (.loc σ.heap.length) σ1) (Ψ := Ψ) o (show X.A.frames = _ from o.frames) ?_ ?_ c6 hp.1.1.1 hp.1.1.2 hp.1.2 hp.2 R1 (.cons rx (rs.mono l1)) (by rw [hlen]; rfl) hnd hloc
   (fun kV doc pm an cdv ct => .of_eq (hb kV doc pm an cdv ct _ (by rw [List.length_cons, rs.length, hlen]))) (fE hgk hg) (.inl hf) (fun X' o' a b c d e => hbody X' o' a b c d (by rw [List.length_append] at e; exact e)) ?_ ?_
  ·have := o.depth
   show X.A.depth + 1 + 1 + (X.room - 2) < recursionLimit
   exact (Om.q 4 0 (.i (.l (.k 2) .x3) (.i (.t (.a .x2 .x3) .x1) (.i (.o (.a (.l (.k 2) .x3) (.e (.a .x0 (.k 2)) .x3)) (.a (.t .x3 (.k 2)) (.e .x0 .k0))) (.t (.a (.a (.a .x2 .k1) .k1) .x0) .x1))))) _ _ _ _ hr this (Om.sbo _ _)
  ·have := o.units
   show X.A.units + 1 + 3 + 8 * (X.room - 2) < cLine
   exact (Om.q 4 0 (.i (.l (.k 2) .x3) (.i (.t (.a .x2 (.m 8 .x3)) .x1) (.i (.o (.a (.l (.k 2) .x3) (.e (.a .x0 (.k 2)) .x3)) (.a (.t .x3 (.k 2)) (.e .x0 .k0))) (.t (.a (.a (.a .x2 .k1) (.k 3)) (.m 8 .x0)) .x1))))) _ _ _ _ hr this (Om.sbo _ _)
  ·rintro v d W1 σ1 s_1 l_1 r_1 R_1 ⟨rfl, hΦ⟩
   cases r_1
   exact ⟨rfl, W1, _, σ1, l1.trans l_1, rx.mono l_1, R_1, hΦ⟩
  ·intro e s_1 h; exact h
end
section
variable {prog : Program} {w : World} {A : Around} {E : Value -> Shared -> Prop} {s : Shared}
theorem eV {value slice : Expr} {o i : Value} {T id : String} {Q : Value -> Shared -> Prop} (hT : s.TypeIs o T) (hl : typeLookup (.type T) "__getitem__" = pure (some (.builtin id)))
  (hs : ∃ ops, subscripted slice false o i = operate ops (getItem o i)) (h : wpAny (model prog w) A (getItem o i) Q E s) : wpAny (model prog w) A (subscriptTail value slice o i) Q E s := by
 obtain ⟨ops, hs⟩ := hs
 unfold subscriptTail
 refine wpAny_bind ?_
 rw [getitemInPython_of_ne hT.not_modules]
 refine wpAny_bind (wpAny_specialOf hT hl ?_)
 have fin : wpAny (model prog w) A (subscripted slice false o i) (fun r s_3 => wpAny (model prog w) A (letTemporaryGo value o r >>= fun _ => pure r) Q E s_3) E s := by
  rw [hs]
  exact wpAny_operating (wpAny_mono h (fun r s_3 h_3 => wpAny_bind (wpAny_letTemporaryGo (wpAny_pure h_3))) fun _ _ x => x)
 first
  | exact wpAny_pure (wpAny_bind fin)
  | exact wpAny_bind (wpAny_pure (wpAny_bind fin))
  | exact wpAny_bind fin
end
noncomputable def slB {α : Type} (b : List α) (i j : Int) : List α := (b.drop i.toNat).take (j.toNat - i.toNat)
noncomputable def byB (b : List UInt8) (i : Int) : Int := ((b.getD i.toNat 0).toNat : Nat)
theorem beq_dec {α : Type} [DecidableEq α] [BEq α] [LawfulBEq α] (a b : α) : (a == b) = decide (a = b) := by rw [Bool.eq_iff_iff]; simp
theorem bne_dec {α : Type} [DecidableEq α] [BEq α] [LawfulBEq α] (a b : α) : (a != b) = decide (a ≠ b) := by rw [Bool.eq_iff_iff]; simp
theorem fe {n : Nat} {i : Int} (h : 0 <= i) : clipAt n i = min i.toNat n := by
 unfold clipAt
 rw [if_neg (by exact (Om.q 0 1 .f18) _ h)]
 obtain ⟨k, rfl⟩ := Int.eq_ofNat_of_zero_le h
 rw [Int.toNat_natCast]
 rcases Nat.le_total k n with q | q
 ·rw [Nat.min_eq_left q, Int.min_eq_left (Int.ofNat_le.mpr q), Int.max_eq_right h]; rfl
 ·rw [Nat.min_eq_right q, Int.min_eq_right (Int.ofNat_le.mpr q), Int.max_eq_right (Int.natCast_nonneg n)]; rfl
theorem picked_sl {b : Array UInt8} {i j : Int} (hi : 0 <= i) (hj : 0 <= j) : (KBy.picked b (some i) (some j)).toList = slB b.toList i j := by
 rw [KBc.picked_eq]
 simp only [Option.elim, fe hi, fe hj]
 unfold slB
 rw [<- Array.length_toList]
 rcases Nat.le_total i.toNat b.toList.length with h | h
 ·rw [Nat.min_eq_left h]
  rcases Nat.le_total j.toNat b.toList.length with h2 | h2
  ·rw [Nat.min_eq_left h2]
  ·rw [Nat.min_eq_right h2, List.take_of_length_le (by rw [List.length_drop]; exact (Om.q 3 1 (.i (.o (.a (.L .k0 .x0) (.E (.c .x0) .x0)) (.a (.T .x0 .k0) (.e .x0 .k0))) (.i (.o (.a (.l .x0 .x1) (.e (.a .x2 .x0) .x1)) (.a (.t .x1 .x0) (.e .x2 .k0))) (.l .x2 .x2)))) (Nat.sub _ _) _ (Int.toNat _) _ ((Om.tno _)) ((Om.sbo _ _))), List.take_of_length_le (by rw [List.length_drop]; exact (Om.q 5 2 (.i (.l .x4 .x3) (.i (.l .x3 .x2) (.i (.o (.a (.L .k0 .x1) (.E (.c .x4) .x1)) (.a (.T .x1 .k0) (.e .x4 .k0))) (.i (.o (.a (.L .k0 .x0) (.E (.c .x2) .x0)) (.a (.T .x0 .k0) (.e .x2 .k0))) (.i (.o (.a (.l .x4 .x3) (.e (.a .x1 .x4) .x3)) (.a (.t .x3 .x4) (.e .x1 .k0))) (.i (.o (.a (.l .x4 .x2) (.e (.a .x0 .x4) .x2)) (.a (.t .x2 .x4) (.e .x0 .k0))) (.l .x1 .x0)))))))) _ _ _ _ _ _ _ h h2 (Om.tno _) (Om.tno _) (Om.sbo _ _) (Om.sbo _ _))]
 ·rw [Nat.min_eq_right h, List.drop_of_length_le (Nat.le_refl _), List.drop_of_length_le h]; simp
theorem picked_to {b : Array UInt8} {j : Int} (hj : 0 <= j) : (KBy.picked b none (some j)).toList = b.toList.take j.toNat := by
 rw [KBc.picked_eq]
 simp only [Option.elim, fe hj]
 rw [<- Array.length_toList]
 rcases Nat.le_total j.toNat b.toList.length with h2 | h2
 ·rw [Nat.min_eq_left h2]; simp
 ·rw [Nat.min_eq_right h2, List.take_of_length_le (by simp), List.take_of_length_le (by exact (Om.q 2 1 (.i (.l .x1 .x0) (.i (.o (.a (.L .k0 .x0) (.E (.c .x0) .x0)) (.a (.T .x0 .k0) (.e .x0 .k0))) (.l .x1 .x0)))) _ _ _ h2 (Om.tno _))]; simp
theorem ke {b : Array UInt8} {i : Int} (hi : 0 <= i) : (KBy.picked b (some i) none).toList = b.toList.drop i.toNat := by
 rw [KBc.picked_eq]
 simp only [Option.elim, fe hi]
 rw [<- Array.length_toList]
 rcases Nat.le_total i.toNat b.toList.length with h | h
 ·rw [Nat.min_eq_left h, List.take_of_length_le (by simp)]
 ·rw [Nat.min_eq_right h, List.drop_of_length_le (Nat.le_refl _), List.drop_of_length_le h]; simp
section
variable {G : Gx} {X : Fx} {σ : St} {W : Wd} {Ψ : Ps} {s : Shared} {Φ : V -> St -> Prop} {ΦB : Bool -> St -> Prop}
theorem len_b {b : List UInt8} (hz : b.length <= 1000000) (h : Φ (.int b.length) σ) : aR G X (.val (.builtin "len")) [.bytes b] Φ Ψ σ := by
 intro W vf vs rf rs s R
 cases rf.inv
 cases rs.inv with
 | cons r rs =>
  cases rs.inv
  cases r.inv with
  | bytes b' t =>
   refine len_bytes (by rw [<- Array.length_toList]; exact Om.hi hz) ⟨W, _, σ, .rfl, .int _ _, R.tok, ?_⟩
   rw [Array.length_toList] at h; exact h
theorem get_b {b : List UInt8} {i : Int} (hz : b.length <= 1000000) (h0 : 0 <= i) (h1 : i < b.length) (h : Φ (.int (byB b i)) σ) : GET G X (.bytes b) (.int i) Φ Ψ σ := by
 intro W value slice vo vi ro ri hs s R
 cases ro.inv with
 | bytes b' t =>
  cases ri.inv with
  | int u =>
   refine eV (typeIs_bytes s b' t) FB.slot_bytes_getitem.lookup hs ?_
   have e : b' = b'.toList.toArray := by simp
   rw [e]
   exact getItem_bytes (Om.hi hz) h0 h1 ⟨W, _, σ, .rfl, .int _ _, R.tok, h⟩
theorem slc_b_ {b : Array UInt8} {t : Tok} {lo hi : Option Int} {l u : Value} {value slice : Expr} (o : X.Ok G) (hz : b.size <= 1000000) (hl : IsPart l lo) (hu : IsPart u hi) (R : RelS G X W σ s)
  (hs : subscripted slice false (.bytes b t) (.ref s.heap.objs.size) = operate [.ref s.heap.objs.size, .bytes b t] (getItem (.bytes b t) (.ref s.heap.objs.size))) (h : Φ (.bytes (KBy.picked b lo hi).toList) σ) :
  wpAny G.M X.A (subscriptTail value slice (.bytes b t) (.ref s.heap.objs.size)) (PV G X W Φ) (EE G X Ψ) { s with heap := s.heap.push { cls := .type "slice", data := .fields #[l, u, .none] } } := by
 refine eV (typeIs_bytes _ b t) FB.slot_bytes_getitem.lookup ⟨_, hs⟩ ?_
 refine getItem_meets (typeIs_bytes _ _ _) (by decide) FB.slot_bytes_getitem FB.entry_bytes_getitem (FB.args_bytes_getitem_2 _ _) (KBc.meets_slice2 b t _ hl hu)
  ⟨Heap.IsSliceOf.new _ _ _ _, Nat.le_trans (KBc.size_picked_le b lo hi) (by rw [sizeLine_eq]; exact Om.hi hz), fun t' k => ?_⟩
 exact ⟨W, _, σ, .rfl, .bytes _ _, R.grow (tk := k) fun b ob e => Heap.get?_push_of_some _ e, h⟩
theorem slc_b {b : List UInt8} {i j : Int} (o : X.Ok G) (hz : b.length <= 1000000) (h0 : 0 <= i) (h1 : 0 <= j) (h : Φ (.bytes (slB b i j)) σ) : SLC G X (.bytes b) (some i) (some j) Φ Ψ σ := by
 intro W value slice vo l u ro hl hu s R hs
 cases ro.inv with
 | bytes b' t => exact slc_b_ o (by rw [<- Array.length_toList]; exact hz) hl hu R hs (by rw [picked_sl h0 h1]; exact h)
theorem slc_b0 {b : List UInt8} {j : Int} (o : X.Ok G) (hz : b.length <= 1000000) (h1 : 0 <= j) (h : Φ (.bytes (b.take j.toNat)) σ) : SLC G X (.bytes b) none (some j) Φ Ψ σ := by
 intro W value slice vo l u ro hl hu s R hs
 cases ro.inv with
 | bytes b' t => exact slc_b_ o (by rw [<- Array.length_toList]; exact hz) hl hu R hs (by rw [picked_to h1]; exact h)
theorem slc_b1 {b : List UInt8} {i : Int} (o : X.Ok G) (hz : b.length <= 1000000) (h1 : 0 <= i) (h : Φ (.bytes (b.drop i.toNat)) σ) : SLC G X (.bytes b) (some i) none Φ Ψ σ := by
 intro W value slice vo l u ro hl hu s R hs
 cases ro.inv with
 | bytes b' t => exact slc_b_ o (by rw [<- Array.length_toList]; exact hz) hl hu R hs (by rw [ke h1]; exact h)
theorem cmp_eq_b {b c : List UInt8} (h : Φ (.bool (decide (b = c))) σ) : CMP G X .Eq (.bytes b) (.bytes c) Φ Ψ σ := by
 intro W x y rx ry s R
 cases rx.inv with
 | bytes b' t => cases ry.inv with
  | bytes c' u => exact eq_bytes ⟨W, _, σ, .rfl, .bool _, R, by rw [beq_dec]; exact h⟩
theorem cmp_ne_b {b c : List UInt8} (h : Φ (.bool (decide (b ≠ c))) σ) : CMP G X .NotEq (.bytes b) (.bytes c) Φ Ψ σ := by
 intro W x y rx ry s R
 cases rx.inv with
 | bytes b' t => cases ry.inv with
  | bytes c' u =>
   refine ne_bytes ⟨W, _, σ, .rfl, .bool _, R, ?_⟩
   rw [bne_dec]; exact h
theorem bin_add_b {b c : List UInt8} (hz : b.length + c.length <= 1000000) (h : Φ (.bytes (b ++ c)) σ) : BIN G X .Add (.bytes b) (.bytes c) Φ Ψ σ := by
 intro W x y rx ry s R
 cases rx.inv with
 | bytes b' t => cases ry.inv with
  | bytes c' u =>
   refine KBy.add_bytes (by rw [<- Array.length_toList, <- Array.length_toList]; exact (Om.q 2 0 .f53) _ _ hz) fun t' k => ⟨W, _, σ, .rfl, .bytes _ _, R.tok, ?_⟩
   rw [Array.toList_append]; exact h
end
section
open PySem.Builtin
section
variable {prog : Program} {w : World} {A : Around} {E : Value -> Shared -> Prop} {s : Shared} {b c : Array UInt8} {t u : Tok}
theorem jU {i : Int} (h0 : 0 <= i) (h1 : i < 256) : Gives (Builtin.«bytes.__contains__» ⟨[.bytes b t, .int i u], []⟩) (.val (.bool (b.contains i.toNat.toUInt8))) := by
 refine .of_eq ?_
 have e : Bytes.containsIn "bytes.__contains__" (.bytes b t) (.int i u) = pure (b.contains i.toNat.toUInt8) := by
  unfold Bytes.containsIn
  rw [KBy.buffer_eq]
  show (if (decide (i < 0) || decide (i ≥ 256)) = true then _ else _ : Sem Bool) = _
  rw [if_neg (by simp; exact (Om.q 0 1 (.i (.L .k0 .x0) (.i (.T .x0 (.k 256)) (.a (.L .k0 .x0) (.T .x0 (.k 256)))))) _ h0 h1)]
 show (Bytes.containsIn "bytes.__contains__" (.bytes b t) (.int i u) >>= fun r => ret (.bool r)) = _
 rw [e]; rfl
theorem bytes_no_index : typeLookup (.type "bytes") "__index__" = pure none := by rw [typeLookup_type, builtinLookup_eq_fast]; kernel_rfl
theorem cut_bytes : typeNameOfCut 200 (.bytes c u) = pure "bytes" := by kernel_rfl
theorem i8 {Q : Value -> Shared -> Prop} (hh : A.handled = none) (h : ∀ h' tk, (∀ a o, s.heap.get? a = some o -> h'.get? a = some o) -> Q (.bool (Bytes.find? b c 0 b.size).isSome) { s with heap := h', toks := tk }) :
  wpAny (model prog w) A (compareOp .In (.bytes c u) (.bytes b t)) Q E s := by
 refine In_slot (typeIs_bytes s b t) FB.slot_bytes_contains (wpAny_call_entry FB.slot_bytes_contains (typeIs_bytes s b t) FB.entry_bytes_contains ?_ (FB.args_bytes_contains_2 _ _))
 show wpAny _ _ (Bytes.containsIn "bytes.__contains__" (.bytes b t) (.bytes c u) >>= fun r => ret (.bool r)) _ _ s
 refine wpAny_bind ?_
 unfold Bytes.containsIn
 rw [KBy.buffer_eq]
 refine wpAny_bind (wpAny_attempt ?_)
 unfold asIndex
 refine wpAny_bind (wpAny_of_eq (a := none) rfl ?_)
 refine wpAny_bind ?_
 unfold callSpecial?
 refine wpAny_bind (wpAny_specialOf (typeIs_bytes s c u) bytes_no_index (wpAny_pure ?_))
 refine wpAny_bind (wpAny_of_eq cut_bytes ?_)
 refine wpAny_raiseErrorMade plainExc_TypeError hh fun h' tk e hx => ?_
 refine wpAny_bind (wpAny_pure ?_)
 rw [KBy.buffer_eq]
 refine wpAny_bind (wpAny_pure (wpAny_bind (wpAny_rule (wpAny_pure ?_))))
 exact wpAny_pure ⟨_, rfl, wpAny_truthy_bool (h h' tk hx.keeps)⟩
end
theorem i9 {b : Array UInt8} {i : Int} : b.contains i.toNat.toUInt8 = b.toList.contains i.toNat.toUInt8 := by simp
section
variable {G : Gx} {X : Fx} {σ : St} {W : Wd} {Ψ : Ps} {s : Shared} {Φ : V -> St -> Prop} {ΦB : Bool -> St -> Prop}
theorem cmp_in_ib {b : List UInt8} {i : Int} (h0 : 0 <= i) (h1 : i < 256) (h : Φ (.bool (b.contains i.toNat.toUInt8)) σ) : CMP G X .In (.int i) (.bytes b) Φ Ψ σ := by
 intro W x y rx ry s R
 cases rx.inv with
 | int t => cases ry.inv with
  | bytes b' u =>
   refine in_gives (typeIs_bytes s b' u) FB.slot_bytes_contains FB.entry_bytes_contains (FB.args_bytes_contains_2 _ _) (jU h0 h1) ⟨W, _, σ, .rfl, .bool _, R, ?_⟩
   rw [i9]; exact h
theorem find_one {b : Array UInt8} {c : UInt8} : (Bytes.find? b #[c] 0 b.size).isSome = b.toList.contains c := by
 unfold Bytes.find?
 rw [Bool.eq_iff_iff, List.find?_isSome, List.contains_iff_mem]
 constructor
 ·rintro ⟨i, hi, e⟩
  simp only [List.mem_map, List.mem_range] at hi
  obtain ⟨j, hj, rfl⟩ := hi
  simp only [beq_iff_eq] at e
  have hlt : j < b.size := by simp at hj; exact (Om.q 2 0 .f19) _ _ hj
  have := congrArg (fun a : Array UInt8 => a[0]?) e
  simp [Array.getElem?_extract, hlt] at this
  rw [<- this.2]
  simp
 ·intro hm
  obtain ⟨i, hi, e⟩ := List.mem_iff_getElem.mp hm
  have hi' : i < b.size := by simpa using hi
  refine ⟨i, ?_, ?_⟩
  ·simp only [List.mem_map, List.mem_range]
   exact ⟨i, by simp; exact (Om.q 2 0 .f19) _ _ hi', by simp⟩
  ·simp only [beq_iff_eq]
   apply Array.ext
   ·simp; exact (Om.q 4 0 (.i (.t .x3 .x2) (.i (.o (.a (.l (.a .x3 .k1) .x2) (.e .x0 (.a .x3 .k1))) (.a (.t .x2 (.a .x3 .k1)) (.e .x0 .x2))) (.i (.o (.a (.l .x3 .x0) (.e (.a .x1 .x3) .x0)) (.a (.t .x0 .x3) (.e .x1 .k0))) (.e .x1 .k1))))) i b.size (Min.min (i + 1) b.size - i) (Min.min (i + 1) b.size) hi' (by exact (Om.mn _ _)) (by exact (Om.sbo _ _))
   ·intro k h1 h2
    simp at h1 h2
    have : k = 0 := by exact (Om.q 1 0 (.i (.e .x0 .k0) (.e .x0 .k0))) _ h2
    subst this
    simp
    simpa using e
theorem cmp_in_bb {b : List UInt8} {c : UInt8} (hh : X.A.handled = none) (h : Φ (.bool (b.contains c)) σ) : CMP G X .In (.bytes [c]) (.bytes b) Φ Ψ σ := by
 intro W x y rx ry s R
 generalize hc : [c] = cl at rx
 cases rx.inv with
 | bytes c' t => cases ry.inv with
  | bytes b' u =>
   refine i8 hh fun h' tk k => ⟨W, _, σ, .rfl, .bool _, R.grow k, ?_⟩
   have e : c' = #[c] := by
    apply Array.ext'
    simp [<- hc]
   rw [e, find_one]; exact h
end
end
section
open PySem.Builtin
theorem jz {M : Model} {A : Around} {E : Value -> Shared -> Prop} {α β : Type} (f : α -> β -> Sem (ForInStep β)) (I : List α -> β -> Shared -> Prop) (Q : β -> Shared -> Prop)
  (step : ∀ x l b s, I (x :: l) b s -> wpAny M A (f x b) (fun r s' => ∃ b', r = .yield b' /\ I l b' s') E s) (fin : ∀ b s, I [] b s -> Q b s) : ∀ (l : List α) (b : β) (s : Shared), I l b s -> wpAny M A (forIn l b f) Q E s
 | [], b, s, h => wpAny_pure (fin b s h)
 | x :: l, b, s, h => by
  rw [List.forIn_cons]
  refine wpAny_bind (wpAny_mono (step x l b s h) (fun r s' yy => ?_) fun _ _ y => y)
  obtain ⟨b', e, h'⟩ := yy
  subst e
  exact jz f I Q step fin l b' s' h'
theorem kq {m : Type -> Type} [Monad m] [LawfulMonad m] {β : Type} {n : Nat} {c : β} {f : Nat -> β -> m (ForInStep β)} : (forIn [0:n] c f : m β) = forIn (List.range' 0 n) c f := by
 rw [Std.Legacy.Range.forIn_eq_forIn_range']
 have hsz : ([0:n] : Std.Legacy.Range).size = n := by simp [Std.Legacy.Range.size]
 show forIn (List.range' 0 ([0:n] : Std.Legacy.Range).size 1) c f = _
 rw [hsz]
section
variable {prog : Program} {w : World} {A : Around} {E : Value -> Shared -> Prop} {s : Shared} {b c : Array UInt8} {t u : Tok}
theorem take_q {id : String} : Bytes.takeBufferQuiet? id (.bytes b t) 0 = pure (some (b, none)) := by
 have e : Bytes.takeBuffer? id (.bytes b t) 0 = pure (some (b, none)) := by
  unfold Bytes.takeBuffer?
  rw [KBy.special_eq KBy.look_buffer, KBy.own_buffer, show ((0 : Int) == Bytes.fullReadOnly) = false from rfl, KBy.buffer_eq]
  rfl
 unfold Bytes.takeBufferQuiet?
 rw [e]; rfl
theorem slot_join : Slot "bytes" "join" "bytes.join" :=
 .of (owner := "bytes") (n := "join") (by rw [typeLookup_type, builtinLookup_eq_fast]; kernel_rfl) (by decide +kernel) (by decide +kernel) (by decide +kernel)
  (by first | exact .inl (by decide +kernel) | exact .inr (by decide +kernel)) (by rw [isSubtype_type]; kernel_rfl)
theorem entry_join : entryFor table "bytes.join" = some Builtin.«bytes.join» := entryFor_of_tree (by kernel_rfl)
theorem iX (a b : Value) : argsOk "bytes.join" ⟨[a, b], []⟩ := by unfold argsOk; kernel_rfl
theorem type_join : typeOf (.builtin "bytes.join") = pure (.type "method_descriptor") := by kernel_rfl
inductive bytesV : List Value -> List (List UInt8) -> Prop
 | nil : bytesV [] []
 | cons {b : Array UInt8} {t : Tok} {vs : List Value} {bs : List (List UInt8)} (h : bytesV vs bs) : bytesV (.bytes b t :: vs) (b.toList :: bs)
theorem bytesV.len : ∀ {vs : List Value} {bs : List (List UInt8)}, bytesV vs bs -> vs.length = bs.length := fun h => by
 induction h with
 | nil => rfl
 | cons _ ih => exact congrArg Nat.succ ih
theorem bytesV.get : ∀ {vs : List Value} {bs : List (List UInt8)}, bytesV vs bs -> ∀ {i : Nat}, i < vs.length -> ∃ b t, vs[i]? = some (.bytes b t) /\ bs[i]? = some b.toList := fun h => by
 induction h with
 | nil => exact fun hi => absurd hi (Nat.not_lt_zero _)
 | cons _ ih => intro i hi; cases i with
  | zero => exact ⟨_, _, rfl, rfl⟩
  | succ i => exact ih (Nat.lt_of_succ_lt_succ hi)
theorem joinGo {taken : List (Value × Option Value)} {keep : List Value} {Q : Unit -> Shared -> Prop} (h : ∀ p ∈ taken, p.2 = none) (hQ : Q () s) : wpAny (model prog w) A (Bytes.joinLetGo taken keep) Q E s := by
 induction taken with
 | nil => exact wpAny_pure hQ
 | cons p r ih =>
  obtain ⟨x, y⟩ := p
  obtain rfl : y = none := h _ (.head _)
  unfold Bytes.joinLetGo
  exact wpAny_bind (wpAny_letGo (ih fun p hp => h p (.tail _ hp)))
theorem ko (ps : List (List UInt8)) : Bytes.joined #[] (ps.map List.toArray) = ps.flatten.toArray := by
 have key : ∀ (l : List (List UInt8)) (k : Nat) (acc : Array UInt8), (((l.map List.toArray).zipIdx k).foldl (fun out (x : Array UInt8 × Nat) => (if x.2 > 0 then out ++ #[] else out) ++ x.1) acc) = acc ++ l.flatten.toArray := by
  intro l
  induction l with
  | nil => intro k acc; simp
  | cons a r ih =>
   intro k acc
   rw [List.map_cons, List.zipIdx_cons, List.foldl_cons, ih]
   simp
 have := key ps 0 #[]
 unfold Bytes.joined
 simpa using this
noncomputable abbrev LI (s₀ : Shared) (n : Nat) (bs : List (List UInt8)) : List Nat -> (Array (Array UInt8) × List (Value × Option Value)) -> Shared -> Prop :=
 fun L st s => s = s₀ /\ ∃ i, i <= n /\ L = List.range' i (n - i) /\ st.1.toList = (bs.take i).map List.toArray /\ ∀ p ∈ st.2, p.2 = none /\ p.1.onHeap = false
theorem ifT {α : Type} {M : Model} {c : Bool} {x y : Sem α} {Q : α -> Shared -> Prop} (hc : c = true) (h : wpAny M A x Q E s) : wpAny M A (if c = true then x else y) Q E s := by rw [if_pos hc]; exact h
theorem ifF {α : Type} {M : Model} {c : Bool} {x y : Sem α} {Q : α -> Shared -> Prop} (hc : c = false) (h : wpAny M A y Q E s) : wpAny M A (if c = true then x else y) Q E s := by rw [if_neg (by rw [hc]; decide)]; exact h
theorem im {vs : List Value} {bs : List (List UInt8)} {M : Model} {Q : Array (Array UInt8) × List (Value × Option Value) -> Shared -> Prop} {f : Nat -> Array (Array UInt8) × List (Value × Option Value) -> Sem (ForInStep (Array (Array UInt8) × List (Value × Option Value)))} (hb : bytesV vs bs)
  (hf : ∀ i st b t', vs[i]? = some (.bytes b t') -> (st.2.any fun x => x.1.onHeap) = false -> ∀ Q', Q' (.yield (st.1.push b, st.2 ++ [(.bytes b t', none)])) s -> wpAny M A (f i st) Q' E s)
  (h : ∀ st, st.1.toList = bs.map List.toArray -> (∀ p ∈ st.2, p.2 = none /\ p.1.onHeap = false) -> Q st s) : wpAny M A (forIn [0:vs.toArray.size] (#[], []) f) Q E s := by
 rw [kq]
 refine jz _ (LI s vs.length bs) Q ?_ ?_ _ _ _ ?_
 ·rintro j L ⟨ps, tk⟩ s' ⟨rfl, i, hi, hL, h1, h2⟩
  have hlt : i < vs.length := by
   rcases Nat.lt_or_ge i vs.length with q | q
   ·exact q
   ·rw [show vs.length - i = 0 by exact (Om.q 3 0 (.i (.l .x2 .x1) (.i (.l .x1 .x2) (.i (.o (.a (.l .x2 .x1) (.e (.a .x0 .x2) .x1)) (.a (.t .x1 .x2) (.e .x0 .k0))) (.e .x0 .k0))))) _ _ _ hi q (Om.sbo _ _)] at hL; injection hL
  obtain ⟨m, hm⟩ : ∃ m, vs.length - i = m + 1 := ⟨vs.length - i - 1, by exact (Om.q 4 0 .f54) _ _ _ _ hlt (Om.sbo _ _) (Om.sbo _ _)⟩
  rw [hm, List.range'_succ] at hL
  obtain ⟨hj, hL'⟩ := List.cons.inj hL
  subst hL'
  rw [hj]
  obtain ⟨b, t', e1, e2⟩ := hb.get hlt
  have hn : (tk.any fun x => x.1.onHeap) = false := by
   rw [List.any_eq_false]
   intro p hp
   simp [(h2 p hp).2]
  refine hf i (ps, tk) b t' e1 hn _ ⟨_, rfl, rfl, i + 1, hlt, by rw [show vs.length - (i + 1) = m by exact (Om.q 6 0 (.i (.t .x5 .x4) (.i (.e .x3 (.a .x2 .k1)) (.i (.e .x1 .x5) (.i (.o (.a (.l .x5 .x4) (.e (.a .x3 .x5) .x4)) (.a (.t .x4 .x5) (.e .x3 .k0))) (.i (.o (.a (.l (.a .x5 .k1) .x4) (.e (.a .x0 (.a .x5 .k1)) .x4)) (.a (.t .x4 (.a .x5 .k1)) (.e .x0 .k0))) (.e .x0 .x2))))))) _ _ _ _ _ _ hlt hm hj (Om.sbo _ _) (Om.sbo _ _)], ?_, ?_⟩
  ·rw [Array.toList_push, h1, List.take_add_one, e2]; simp
  ·intro p hp
   rcases List.mem_append.mp hp with hp | hp
   ·exact h2 p hp
   ·rw [List.mem_singleton.mp hp]; exact ⟨rfl, rfl⟩
 ·rintro ⟨ps, tk⟩ s' ⟨rfl, i, hi, hL, h1, h2⟩
  refine h _ ?_ h2
  have : i = vs.length := by
   rcases Nat.lt_or_ge i vs.length with q | q
   ·obtain ⟨m, hm⟩ : ∃ m, vs.length - i = m + 1 := ⟨vs.length - i - 1, by exact (Om.q 4 0 .f54) _ _ _ _ q (Om.sbo _ _) (Om.sbo _ _)⟩
    rw [hm, List.range'_succ] at hL; injection hL
   ·exact (Om.q 2 0 (.i (.l .x1 .x0) (.i (.l .x0 .x1) (.e .x1 .x0)))) _ _ hi q
  rw [h1, this, hb.len, List.take_length]
 ·exact ⟨rfl, 0, Nat.zero_le _, by simp, by simp, by simp⟩
theorem jw {l : Addr} {vs : List Value} {bs : List (List UInt8)} {n : Nat} {d : Option Addr} {sl : Array (Option Value)} {Q : PySem.Fin -> Shared -> Prop} (hb : bytesV vs bs) (hl : s.heap.get? l = some (aA "list" d vs n sl)) (hz : bs.flatten.length <= 1000000)
  (h : ∀ t' tk, Q (.done (.ret (.bytes bs.flatten.toArray t'))) { s with toks := tk }) : wpAny (model prog w) A (Builtin.«bytes.join» ⟨[.bytes #[] t, .ref l], []⟩) Q E s := by
 have hT : s.TypeIs (.ref l) "list" := ⟨_, hl, rfl⟩
 have sq : ∀ {Q : Option (Array Value) -> Shared -> Prop}, Q (some vs.toArray) s -> wpAny (model prog w) A (seqItems? (.ref l)) Q E s := fun hq => wpAny_seqItems hl rfl hq
 have ji : ∀ {Q : Value -> Shared -> Prop}, Q (.ref l) s -> wpAny (model prog w) A (Bytes.joinItems (.ref l)) Q E s := fun hq => by
  unfold Bytes.joinItems
  exact wpAny_bind (wpAny_typeOf hT (ifT rfl (wpAny_pure hq)))
 have fin : ∀ (st : Array (Array UInt8) × List (Value × Option Value)), st.1.toList = bs.map List.toArray -> (∀ p ∈ st.2, p.2 = none /\ p.1.onHeap = false) -> ∀ (id : String), wpAny (model prog w) A (do
   let sep <- Bytes.payload (.bytes #[] t)
   if Bytes.tooLong (st.1.foldl (· + ·.size) (sep.size * (st.1.size - 1))) then unsupported s!"{id}:memory"
   let result <- Bytes.Kind.bytes.new (Bytes.joined sep st.1.toList)
   holding (result :: st.2.flatMap fun (x : Value × Option Value) => x.1 :: x.2.toList) point
   Bytes.joinLetGo st.2 [result]
   ret result) Q E s := by
  intro st h1 h2 id
  refine wpAny_bind (wpAny_of_eq (a := #[]) rfl ?_)
  have hsum : ∀ (l : List (List UInt8)) (k : Nat), ((l.map List.toArray).foldl (fun (x : Nat) (y : Array UInt8) => x + y.size) k) = k + l.flatten.length := by
   intro l
   induction l with
   | nil => intro k; simp
   | cons a r ih => intro k; rw [List.map_cons, List.foldl_cons, ih]; simp; exact (Om.q 3 0 (.e (.a (.a .x2 .x1) .x0) (.a .x2 (.a .x1 .x0)))) _ _ _
  have hlen : Bytes.tooLong (st.1.foldl (· + ·.size) ((#[] : Array UInt8).size * (st.1.size - 1))) = false := by
   refine KBy.tooLong_not ?_
   rw [<- Array.foldl_toList, h1]
   have := hsum bs ((#[] : Array UInt8).size * (st.1.size - 1))
   simp only [List.size_toArray, List.length_nil, Nat.zero_mul, Nat.zero_add] at this ⊢
   exact (Om.q 2 0 .f27) _ _ hz this
  refine ifF hlen ?_
  rw [h1, ko]
  refine wpAny_bind (wpAny_mkBytes ?_ (by rw [sizeLine_eq, List.size_toArray]; exact Om.hi hz))
  refine wpAny_bind (wpAny_holding (wpAny_point ?_))
  refine wpAny_bind (joinGo (fun p hp => (h2 p hp).1) (wpAny_pure (h _ _)))
 show wpAny _ _ (Bytes.joinM .bytes ⟨[.bytes #[] t, .ref l], []⟩) _ _ s
 unfold Bytes.joinM
 refine wpAny_bind (wpAny_of_eq (a := (.bytes #[] t, .ref l)) rfl ?_)
 refine ifT rfl (wpAny_bind (ji (wpAny_bind (sq ?_))))
 refine ifT rfl ?_
 have step : ∀ (i : Nat) (st : Array (Array UInt8) × List (Value × Option Value)) (b : Array UInt8) (t' : Tok), vs[i]? = some (.bytes b t') -> vs.toArray.getD i .none = .bytes b t' := by
  intro i st b t' e1
  simp [Array.getD_eq_getD_getElem?, e1]
 rcases vs with _ | ⟨a, _ | ⟨b, r⟩⟩
 ·refine wpAny_bind (im (vs := []) hb (fun i st b t' e hn Q' hq => by injection e) fun st h1 h2 => fin st h1 h2 _)
 ·cases hb with
  | @cons b t' _ bs h' =>
   cases h'
   refine wpAny_bind (wpAny_typeOf (typeIs_bytes s b t') (ifT rfl (wpAny_bind (wpAny_rule (wpAny_pure ?_)))))
   have := h t' s.toks
   rw [show [b.toList].flatten.toArray = b by simp] at this
   exact this
 ·refine wpAny_bind (im (vs := a :: b :: r) hb (fun i st b t' e hn Q' hq => ?_) fun st h1 h2 => fin st h1 h2 _)
  refine wpAny_bind (sq ?_)
  refine ifF hn ?_
  refine wpAny_bind (wpAny_holding ?_)
  rw [step i st _ _ e, take_q]
  refine wpAny_pure (wpAny_bind (sq ?_))
  refine ifF (by simp) ?_
  exact wpAny_pure hq
end
section
variable {G : Gx} {X : Fx} {σ : St} {W : Wd} {Ψ : Ps} {s : Shared} {Φ : V -> St -> Prop} {ΦB : Bool -> St -> Prop}
theorem iQ {vs : List Value} : ∀ {bs : List (List UInt8)}, RVs G.P G.K W vs (bs.map .bytes) -> bytesV vs bs := by
 induction vs with
 | nil => intro bs h; cases bs with | nil => exact .nil | cons => cases h
 | cons v vs ih =>
  intro bs h
  cases bs with
  | nil => exact h.cons_none.elim
  | cons b bs =>
   cases h.hd.inv
   exact .cons (ih h.tl)
theorem e8 {b : List UInt8} : GM G X (.bytes b) "join" (.val (.builtin "bytes.join")) [.bytes b] σ := by
 intro W va ra s R pl Q E k
 cases ra.inv with
 | bytes b' t => exact getMethod_builtin (typeIs_bytes s b' t) FB.plainAttrs_bytes slot_join type_join (fun a e => by injection e) (k _ _ (.val _) (.cons (.bytes _ _) .nil))
theorem kz {bs : List (List UInt8)} (o : X.Ok G) (hz : bs.flatten.length <= 1000000) (h : Φ (.bytes bs.flatten) σ) : aR G X (.val (.builtin "bytes.join")) [.bytes [], .lst (bs.map .bytes)] Φ Ψ σ := by
 intro W vf vs rf rs s R
 cases rf.inv
 cases rs.inv with
 | cons r1 rs => cases rs.inv with
  | cons r2 rs =>
   cases rs.inv
   generalize he : ([] : List UInt8) = e0 at r1
   cases r1.inv with
   | bytes b' t =>
    have hb' : b' = #[] := Array.ext' (by simp [<- he])
    subst hb'
    cases r2.inv with
    | lst hk hs =>
     refine wpAny_call_entry slot_join (typeIs_bytes s _ t) entry_join (jw (iQ hs) (R.known o hk) hz fun t' tk => ?_) (iX _ _)
     refine ⟨_, rfl, W, _, σ, .rfl, .bytes _ _, R.tok, ?_⟩
     exact h
end
end
section
open PySem.Builtin
section
variable {G : Gx} {X : Fx} {σ : St} {W : Wd} {Ψ : Ps} {s : Shared} {Φ : V -> St -> Prop} {ΦB : Bool -> St -> Prop}
theorem type_append : typeOf (.builtin "list.append") = pure (.type "method_descriptor") := by kernel_rfl
theorem bW {i : Nat} {ds : List V} {va : Value} (R : RelS G X W σ s) (hi : σ.heap[i]? = some (some (.list ds))) (ra : RV G.P G.K W va (.loc i)) :
  ∃ a vs n, va = .ref a /\ RVs G.P G.K W vs ds /\ s.heap.get? a = some (aA "list" .none vs n #[]) /\
   ∀ (f : Obj -> Obj) vs' ds' n' tk, f (aA "list" .none vs n #[]) = aA "list" .none vs' n' #[] -> RVs G.P G.K W vs' ds' -> RelS G X W { σ with heap := σ.heap.set i (some (.list ds')) } { s with heap := s.heap.update a f, toks := tk } := by
 obtain ⟨a, vs, n, h1, h2, h3, h4⟩ := R.rel.setList hi
 cases ra.inv with
 | loc e =>
  rw [h1] at e; obtain rfl := Option.some.inj e
  exact ⟨a, vs, n, rfl, h2, h3, fun f vs' ds' n' tk hf hs => ⟨h4 f vs' ds' n' hf hs, ⟨R.sh.gens, R.sh.drawn, R.sh.os⟩⟩⟩
theorem iy {i : Nat} {ds : List V} (hi : σ.heap[i]? = some (some (.list ds))) : GM G X (.loc i) "append" (.val (.builtin "list.append")) [.loc i] σ := by
 intro W va ra s R pl Q E k
 obtain ⟨a, vs, n, rfl, hs, ho, -⟩ := bW R hi ra
 exact getMethod_builtin (T := "list") ⟨_, ho, rfl⟩ F.plainAttrs_list PySem.F.slot_list_append type_append (fun b e => by cases e; exact ⟨_, ho, rfl⟩) (k _ _ (.val _) (.cons ra .nil))
set_option tactic.hygienic true in
theorem gh {i : Nat} {ds : List V} {d : V} (hi : σ.heap[i]? = some (some (.list ds))) (hz : ds.length <= 1000000) (h : Φ .none { σ with heap := σ.heap.set i (some (.list (ds ++ [d]))) }) : aR G X (.val (.builtin "list.append")) [.loc i, d] Φ Ψ σ := by
 intro W vf vs rf rs s R
 cases rf.inv
 cases rs.inv with
 | cons r1 rs => cases rs with
  | cons r2 rs =>
   cases rs
   obtain ⟨a, vs, n, rfl, hs, ho, k⟩ := bW R hi r1
   rename_i v
   refine wpAny_call_entry PySem.F.slot_list_append ⟨_, ho, rfl⟩ entry_list_append ?_ (args_list_append _ _)
   show wpAny _ _ (updateSeq a (·.push v) >>= fun _ => ret .none) _ _ s
   have hvl := hs.length
   refine wpAny_bind (wpAny_updateSeq (hz := by rw [List.size_toArray, sizeLine_eq]; exact (Om.q 2 0 .f27) _ _ hz hvl) (_hz' := by rw [Array.size_push, List.size_toArray, sizeLine_eq]; exact (Om.q 2 0 (.i (.l .x1 (.k 1000000)) (.i (.e .x0 .x1) (.l (.a .x0 .k1) (.a (.k 16777216) .k1))))) _ _ hz hvl) ho rfl (wpAny_pure ⟨.none, rfl, W, _, _, .rfl, .none, k _ (vs ++ [v]) (ds ++ [d]) (n + 1) s.toks ?_ (hs.append (.cons r2 .nil)), h⟩))
   rw [mapSeq_push, List.push_toArray]
theorem ga {ds : List V} {k : Int} {d : V} (o : X.Ok G) (h0 : 0 <= k) (hz : ds.length <= 1000000) (hd : ds[k.toNat]? = some d) (h : Φ d σ) : GET G X (.tup ds) (.int k) Φ Ψ σ := by
 intro W value slice vo vi ro ri hs s R
 obtain ⟨a, vs, rfl, ht, rs⟩ := bo o R ro
 cases ri.inv
 obtain ⟨v, hv, rv⟩ := rs.get hd
 have hlt := (List.getElem?_eq_some_iff.mp hv).1
 have hl := rs.length
 refine eV ht.typeIs slot_tuple_getitem.lookup hs (PyProof.Rows.getItem_tuple ht ((Om.q 0 1 (.i (.L .k0 .x0) (.L (.g (.k 9223372036854775808)) .x0))) _ h0) ((Om.q 3 1 (.i (.l .x2 (.k 1000000)) (.i (.t .x1 .x0) (.i (.e .x0 .x2) (.i (.o (.a (.L .k0 .x0) (.E (.c .x1) .x0)) (.a (.T .x0 .k0) (.e .x1 .k0))) (.T .x0 (.k 9223372036854775808))))))) _ _ _ _ hz hlt hl (Om.tno _)) (j := k.toNat) ?_ (by simpa using hv) ⟨W, d, σ, .rfl, rv, R, h⟩)
 have : ¬ k < 0 := by exact (Om.q 0 1 .f18) _ h0
 simp [seqIndex?, this, h0]
 exact (Om.q 3 1 (.i (.L .k0 .x0) (.i (.l .x2 (.k 1000000)) (.i (.t .x1 .x0) (.i (.e .x0 .x2) (.i (.o (.a (.L .k0 .x0) (.E (.c .x1) .x0)) (.a (.T .x0 .k0) (.e .x1 .k0))) (.T .x0 (.c .x0)))))))) _ _ _ _ h0 hz hlt hl (Om.tno _)
theorem fW {ds : List V} {v : Value} (o : X.Ok G) (R : RelS G X W σ s) (r : RV G.P G.K W v (.lst ds)) : ∃ a vs d n sl, v = .ref a /\ s.heap.get? a = some (aA "list" d vs n sl) /\ RVs G.P G.K W vs ds := by
 cases r.inv with
 | lst h hs => exact ⟨_, _, _, _, _, rfl, R.known o h, hs⟩
theorem get_lst {ds : List V} {k : Int} {d : V} (o : X.Ok G) (h0 : 0 <= k) (hz : k < 1000000) (hd : ds[k.toNat]? = some d) (h : Φ d σ) : GET G X (.lst ds) (.int k) Φ Ψ σ := by
 intro W value slice vo vi ro ri hs s R
 obtain ⟨a, vs, dd, n, sl, rfl, ho, rs⟩ := fW o R ro
 cases ri.inv
 obtain ⟨v, hv, rv⟩ := rs.get hd
 exact eV (T := "list") ⟨_, ho, rfl⟩ slot_list_getitem.lookup hs (wpAny_getItem_list ⟨_, ho, rfl, _, rfl⟩ h0 ((Om.q 0 1 .f55) _ h0 hz) (by simpa using hv) ⟨W, d, σ, .rfl, rv, R, h⟩)
theorem get_loc {i : Nat} {ds : List V} {k : Int} {d : V} (hi : σ.heap[i]? = some (some (.list ds))) (h0 : 0 <= k) (hz : k < 1000000) (hd : ds[k.toNat]? = some d) (h : Φ d σ) : GET G X (.loc i) (.int k) Φ Ψ σ := by
 intro W value slice vo vi ro ri hs s R
 obtain ⟨a, vs, n, rfl, rs, ho, -⟩ := bW R hi ro
 cases ri.inv
 obtain ⟨v, hv, rv⟩ := rs.get hd
 exact eV (T := "list") ⟨_, ho, rfl⟩ slot_list_getitem.lookup hs (wpAny_getItem_list ⟨_, ho, rfl, _, rfl⟩ h0 ((Om.q 0 1 .f55) _ h0 hz) (by simpa using hv) ⟨W, d, σ, .rfl, rv, R, h⟩)
theorem len_l {ds : List V} (o : X.Ok G) (hz : ds.length <= 1000000) (h : Φ (.int ds.length) σ) : aR G X (.val (.builtin "len")) [.lst ds] Φ Ψ σ := by
 intro W vf vs rf rs s R
 cases rf.inv
 cases rs.inv with
 | cons r rs =>
  cases rs.inv
  obtain ⟨a, vs, dd, n, sl, rfl, ho, rs⟩ := fW o R r
  have hl := rs.length
  refine PyProof.Rows.len_list (items := vs.toArray) ⟨_, ho, rfl, _, rfl⟩ (by rw [List.size_toArray]; exact (Om.q 2 0 .f56) _ _ hz hl) ⟨W, _, σ, .rfl, .int _ _, R.tok, ?_⟩
  rw [List.size_toArray, hl]; exact h
end
end
noncomputable def sv (s : String) : V := .str (S s)
noncomputable def fnTab : List (Str × Nat × Nat) := ("lower_code", 4, 61) :: ("lower_text", 5, 66) :: ("is_atom_code", 11, 74) :: ("line_end", 12, 81) :: ("inside_at", 13, 88) :: ("closed_at", 14, 95) :: ("comment_at", 15, 102) :: ("atom_at", 16, 109) :: ("token_at", 17, 116) :: ("past_white", 18, 123) :: ("tokens_of", 19, 130) :: ("without_comments", 20, 135) :: ("is_leap", 28, 172) :: ("month_length", 29, 179) :: ("days_before_year", 30, 186) :: ("day_number", 31, 193) :: ("weekday", 32, 200) :: ("is_day", 33, 207) :: ("is_time", 34, 214) :: ("check_moment", 35, 221) :: ("month_number", 36, 226) :: ("is_day_name", 37, 231) :: ("padded", 38, 238) :: ("zone_text", 39, 245) :: ("clock_text", 40, 250) :: ("is_figures", 41, 255) :: ("zone_in", 42, 262) :: ("named_zone", 43, 267) :: ("full_year", 45, 328) :: ("read_clock", 46, 335) :: ("read_zone", 47, 342) :: ("read_date", 48, 349) :: ("write_date", 49, 354) :: ("_law_box", 51, 359) :: ("_law_draw", 52, 366) :: ("_law_zones", 55, 375) :: ("_law_length", 56, 382) :: ("_law_figures", 57, 389) :: ("_law_gap", 58, 396) :: ("_law_year", 59, 403) :: ("_law_zone", 60, 410) :: ("_law_atom", 61, 415) :: ("_law_is_sign", 62, 422) :: ("_law_is_number", 63, 427) :: ("_law_read", 64, 432) :: ("_law_weekday", 65, 439) :: []
structure Base (G : Gx) where
 word : WordD G
 fns : ∀ t ∈ fnTab, FnG G t.1 (dfAt t.2.1)
 MONTHS : Gl G "MONTHS" (.tup [sv "Jan", sv "Feb", sv "Mar", sv "Apr", sv "May", sv "Jun", sv "Jul", sv "Aug", sv "Sep", sv "Oct", sv "Nov", sv "Dec"])
 DAYS : Gl G "DAYS" (.tup [sv "Mon", sv "Tue", sv "Wed", sv "Thu", sv "Fri", sv "Sat", sv "Sun"])
 lmonths : Gl G "_law_months" (.tup [sv "Jan", sv "Feb", sv "Mar", sv "Apr", sv "May", sv "Jun", sv "Jul", sv "Aug", sv "Sep", sv "Oct", sv "Nov", sv "Dec"])
 ldays : Gl G "_law_days" (.tup [sv "Sat", sv "Sun", sv "Mon", sv "Tue", sv "Wed", sv "Thu", sv "Fri"])
 MOST_DEPTH : Gl G "MOST_DEPTH" (.int 20)
 SIGNS : Gl G "SIGNS" (.bytes [60, 62, 64, 44, 59, 58, 46, 92])
 ATOM_SIGNS : Gl G "ATOM_SIGNS" (.bytes [33, 35, 36, 37, 38, 39, 42, 43, 45, 47, 61, 63, 94, 95, 96, 123, 124, 125, 126])
 NEVER : Gl G "NEVER_ESCAPED" (.tup [.int 0, .int 10, .int 13])
 MOST_YEAR : Gl G "MOST_YEAR" (.int 9999)
 MOST_ZONE : Gl G "MOST_ZONE" (.int 5999)
 FIRST_DAY : Gl G "FIRST_DAY" (.int 719162)
 len : Gl G "len" (.val (.builtin "len"))
 abs : Gl G "abs" (.val (.builtin "abs"))
 chr : Gl G "chr" (.val (.builtin "chr"))
 ord : Gl G "ord" (.val (.builtin "ord"))
 sorted : Gl G "sorted" (.val (.builtin "sorted"))
 str : Gl G "str" (.val (.type "str"))
 int : Gl G "int" (.val (.type "int"))
 range : Gl G "range" (.val (.type "range"))
 bytes : Gl G "bytes" (.val (.type "bytes"))
 Moment : ClsG G "Moment" "Moment.__init__" (dmAt 27 0) ["year", "month", "day", "hour", "minute", "second", "zone"]
 Reader : ClsG G "DateReader" "DateReader.__init__" (dmAt 44 0) ["tokens", "at", "length"]
 m_told : MthG G "Moment" "told" "Moment.told" (dmAt 27 1)
 m_place : MthG G "DateReader" "place" "DateReader.place" (dmAt 44 1)
 m_atom : MthG G "DateReader" "atom" "DateReader.atom" (dmAt 44 2)
 m_skip : MthG G "DateReader" "skip" "DateReader.skip" (dmAt 44 3)
 m_number : MthG G "DateReader" "number" "DateReader.number" (dmAt 44 4)
 m_need : MthG G "DateReader" "need" "DateReader.need" (dmAt 44 5)
section
variable {G : Gx} (B : Base G)
include B
theorem Base.at (i : Nat) {x : Str} {k f : Nat} (h : fnTab[i]? = some (x, k, f)) : FnG G x (dfAt k) := B.fns _ (List.mem_of_getElem? h)
theorem Base.f_lower_code : FnG G "lower_code" (dfAt 4) := B.at 0 rfl
theorem Base.f_lower_text : FnG G "lower_text" (dfAt 5) := B.at 1 rfl
theorem Base.f_is_atom_code : FnG G "is_atom_code" (dfAt 11) := B.at 2 rfl
theorem Base.f_line_end : FnG G "line_end" (dfAt 12) := B.at 3 rfl
theorem Base.f_inside_at : FnG G "inside_at" (dfAt 13) := B.at 4 rfl
theorem Base.f_closed_at : FnG G "closed_at" (dfAt 14) := B.at 5 rfl
theorem Base.f_comment_at : FnG G "comment_at" (dfAt 15) := B.at 6 rfl
theorem Base.f_atom_at : FnG G "atom_at" (dfAt 16) := B.at 7 rfl
theorem Base.f_token_at : FnG G "token_at" (dfAt 17) := B.at 8 rfl
theorem Base.f_past_white : FnG G "past_white" (dfAt 18) := B.at 9 rfl
theorem Base.f_tokens_of : FnG G "tokens_of" (dfAt 19) := B.at 10 rfl
theorem Base.f_without_comments : FnG G "without_comments" (dfAt 20) := B.at 11 rfl
theorem Base.f_is_leap : FnG G "is_leap" (dfAt 28) := B.at 12 rfl
theorem Base.f_month_length : FnG G "month_length" (dfAt 29) := B.at 13 rfl
theorem Base.f_days_before_year : FnG G "days_before_year" (dfAt 30) := B.at 14 rfl
theorem Base.f_day_number : FnG G "day_number" (dfAt 31) := B.at 15 rfl
theorem Base.f_weekday : FnG G "weekday" (dfAt 32) := B.at 16 rfl
theorem Base.f_is_day : FnG G "is_day" (dfAt 33) := B.at 17 rfl
theorem Base.f_is_time : FnG G "is_time" (dfAt 34) := B.at 18 rfl
theorem Base.f_check_moment : FnG G "check_moment" (dfAt 35) := B.at 19 rfl
theorem Base.f_month_number : FnG G "month_number" (dfAt 36) := B.at 20 rfl
theorem Base.f_is_day_name : FnG G "is_day_name" (dfAt 37) := B.at 21 rfl
theorem Base.f_padded : FnG G "padded" (dfAt 38) := B.at 22 rfl
theorem Base.f_zone_text : FnG G "zone_text" (dfAt 39) := B.at 23 rfl
theorem Base.f_clock_text : FnG G "clock_text" (dfAt 40) := B.at 24 rfl
theorem Base.f_is_figures : FnG G "is_figures" (dfAt 41) := B.at 25 rfl
theorem Base.f_zone_in : FnG G "zone_in" (dfAt 42) := B.at 26 rfl
theorem Base.f_named_zone : FnG G "named_zone" (dfAt 43) := B.at 27 rfl
theorem Base.f_full_year : FnG G "full_year" (dfAt 45) := B.at 28 rfl
theorem Base.f_read_clock : FnG G "read_clock" (dfAt 46) := B.at 29 rfl
theorem Base.f_read_zone : FnG G "read_zone" (dfAt 47) := B.at 30 rfl
theorem Base.f_read_date : FnG G "read_date" (dfAt 48) := B.at 31 rfl
theorem Base.f_write_date : FnG G "write_date" (dfAt 49) := B.at 32 rfl
theorem Base.f_law_box : FnG G "_law_box" (dfAt 51) := B.at 33 rfl
theorem Base.f_law_draw : FnG G "_law_draw" (dfAt 52) := B.at 34 rfl
theorem Base.f_law_zones : FnG G "_law_zones" (dfAt 55) := B.at 35 rfl
theorem Base.f_law_length : FnG G "_law_length" (dfAt 56) := B.at 36 rfl
theorem Base.f_law_figures : FnG G "_law_figures" (dfAt 57) := B.at 37 rfl
theorem Base.f_law_gap : FnG G "_law_gap" (dfAt 58) := B.at 38 rfl
theorem Base.f_law_year : FnG G "_law_year" (dfAt 59) := B.at 39 rfl
theorem Base.f_law_zone : FnG G "_law_zone" (dfAt 60) := B.at 40 rfl
theorem Base.f_law_atom : FnG G "_law_atom" (dfAt 61) := B.at 41 rfl
theorem Base.f_law_is_sign : FnG G "_law_is_sign" (dfAt 62) := B.at 42 rfl
theorem Base.f_law_is_number : FnG G "_law_is_number" (dfAt 63) := B.at 43 rfl
theorem Base.f_law_read : FnG G "_law_read" (dfAt 64) := B.at 44 rfl
theorem Base.f_law_weekday : FnG G "_law_weekday" (dfAt 65) := B.at 45 rfl
end
section
variable {G : Gx} {X : Fx} {σ : St} {W : Wd} {Ψ : Ps} {s : Shared} {Φ : V -> St -> Prop} {ΦB : Bool -> St -> Prop} {ΦF : Fl -> St -> Prop}
@[irreducible] noncomputable def PE (G : Gx) (X : Fx) (e : Expr) (σ : St) (v : V) : Prop := EX G X e (fun d σ' => d = v /\ σ' = σ) noPs σ
theorem PE.i {e : Expr} {v : V} (h : EX G X e (fun d σ' => d = v /\ σ' = σ) noPs σ) : PE G X e σ v := by unfold PE; exact h
theorem PE.o {e : Expr} {v : V} (h : PE G X e σ v) : EX G X e (fun d σ' => d = v /\ σ' = σ) noPs σ := by unfold PE at h; exact h
@[irreducible] noncomputable def PT (G : Gx) (X : Fx) (e : Expr) (σ : St) (c : Bool) : Prop := TX G X e (fun d σ' => d = c /\ σ' = σ) noPs σ
theorem PT.i {e : Expr} {c : Bool} (h : TX G X e (fun d σ' => d = c /\ σ' = σ) noPs σ) : PT G X e σ c := by unfold PT; exact h
theorem PT.o {e : Expr} {c : Bool} (h : PT G X e σ c) : TX G X e (fun d σ' => d = c /\ σ' = σ) noPs σ := by unfold PT at h; exact h
noncomputable def PTs (G : Gx) (X : Fx) (op : BoolOp) (es : List Expr) (σ : St) (c : Bool) : Prop := TXs G X op es (fun d σ' => d = c /\ σ' = σ) noPs σ
noncomputable def PEB (G : Gx) (X : Fx) (op : BoolOp) (es : List Expr) (σ : St) (c : V) : Prop := EB G X op es (fun d σ' => d = c /\ σ' = σ) noPs σ
noncomputable def PTC (G : Gx) (X : Fx) (a : V) (ops : List CmpOp) (es : List Expr) (σ : St) (c : Bool) : Prop := TC G X a ops es (fun d σ' => d = c /\ σ' = σ) noPs σ
noncomputable def PEC (G : Gx) (X : Fx) (a : V) (ops : List CmpOp) (es : List Expr) (σ : St) (c : V) : Prop := EC G X a ops es (fun d σ' => d = c /\ σ' = σ) noPs σ
noncomputable def PA (G : Gx) (X : Fx) (es : List Expr) (σ : St) (vs : List V) : Prop := ∀ q, AX G X q es (fun ds σ' => ds = vs /\ σ' = σ) noPs σ
noncomputable def PC (G : Gx) (X : Fx) (f : V) (ds : List V) (σ : St) (v : V) : Prop := aR G X f ds (fun d σ' => d = v /\ σ' = σ) noPs σ
noncomputable def PB2 (G : Gx) (X : Fx) (op : Operator) (a b : V) (σ : St) (v : V) : Prop := BIN G X op a b (fun d σ' => d = v /\ σ' = σ) noPs σ
noncomputable def PU1 (G : Gx) (X : Fx) (op : UnaryOp) (a : V) (σ : St) (v : V) : Prop := UN G X op a (fun d σ' => d = v /\ σ' = σ) noPs σ
noncomputable def PQ (G : Gx) (X : Fx) (op : CmpOp) (a b : V) (σ : St) (v : V) : Prop := CMP G X op a b (fun d σ' => d = v /\ σ' = σ) noPs σ
noncomputable def PR (G : Gx) (X : Fx) (a : V) (σ : St) (c : Bool) : Prop := TRU G X a (fun d σ' => d = c /\ σ' = σ) noPs σ
noncomputable def PG (G : Gx) (X : Fx) (a b : V) (σ : St) (v : V) : Prop := GET G X a b (fun d σ' => d = v /\ σ' = σ) noPs σ
noncomputable def PS (G : Gx) (X : Fx) (a : V) (lo hi : Option Int) (σ : St) (v : V) : Prop := SLC G X a lo hi (fun d σ' => d = v /\ σ' = σ) noPs σ
noncomputable def PGA (G : Gx) (X : Fx) (a : V) (n : Str) (σ : St) (v : V) : Prop := GA G X a n (fun d σ' => d = v /\ σ' = σ) noPs σ
theorem pv_of {v : V} (h : Φ v σ) {x : Value} {s : Shared} (y : PV G X W (fun d σ' => d = v /\ σ' = σ) x s) : PV G X W Φ x s := y.mono .rfl fun d σ' ⟨a, b⟩ => a ▸ b ▸ h
theorem am {e : Expr} {v : V} (p : PE G X e σ v) (h : Φ v σ) : EX G X e Φ Ψ σ := fun W s R => wpAny_mono (p.o W s R) (fun _ _ y => pv_of h y) fun _ _ y => (cx y).elim
theorem de {e : Expr} {c : Bool} (p : PT G X e σ c) (h : ΦB c σ) : TX G X e ΦB Ψ σ := fun W s R => wpAny_mono (p.o W s R) (fun _ _ y => y.mono .rfl fun d σ' ⟨a, b⟩ => a ▸ b ▸ h) fun _ _ y => (cx y).elim
theorem cQ {q : Pos} {es : List Expr} {vs : List V} {Φ : List V -> St -> Prop} (p : PA G X es σ vs) (h : Φ vs σ) : AX G X q es Φ Ψ σ := fun W s R => wpAny_mono (p q W s R) (fun _ _ y => y.mono .rfl fun d σ' ⟨a, b⟩ => a ▸ b ▸ h) fun _ _ y => (cx y).elim
theorem eB {f : V} {ds : List V} {v : V} (p : PC G X f ds σ v) (h : Φ v σ) : aR G X f ds Φ Ψ σ := fun W x y a b s R => wpAny_mono (p W x y a b s R) (fun _ _ y => pv_of h y) fun _ _ y => (cx y).elim
theorem iN {op : CmpOp} {a b v : V} (p : PQ G X op a b σ v) (h : Φ v σ) : CMP G X op a b Φ Ψ σ := fun W x y ra rb s R => wpAny_mono (p W x y ra rb s R) (fun _ _ y => pv_of h y) fun _ _ y => (cx y).elim
theorem gx {x : Str} {pos : Pos} {d : V} (hk : X.env.scope.kind = .function) (hm : Has x d σ.loc) : PE G X (.Name x pos) σ d := .i (cH hk hm ⟨rfl, rfl⟩)
theorem au {x : Str} {pos : Pos} {d : V} (o : X.Ok G) (hm : HasG x d σ.glb) : PE G X (.Name x pos) σ d := .i (fG o hm ⟨rfl, rfl⟩)
theorem aj {i : Int} {k : Nat} {pos : Pos} : PE G X (.Constant (.int i) k pos) σ (.int i) := .i (iG ⟨rfl, rfl⟩)
theorem b4 {x : Str} {k : Nat} {pos : Pos} : PE G X (.Constant (.str x) k pos) σ (.str x.cps.toList) := .i (ex_str ⟨rfl, rfl⟩)
theorem gz {x : List UInt8} {k : Nat} {pos : Pos} : PE G X (.Constant (.bytes x) k pos) σ (.bytes x) := .i (ex_bytes ⟨rfl, rfl⟩)
theorem pe_none {k : Nat} {pos : Pos} : PE G X (.Constant .none k pos) σ .none := .i (ex_none ⟨rfl, rfl⟩)
theorem pe_bool {b : Bool} {k : Nat} {pos : Pos} : PE G X (.Constant (.bool b) k pos) σ (.bool b) := .i (ex_bool ⟨rfl, rfl⟩)
theorem ai {l r : Expr} {op : Operator} {pos : Pos} {a b v : V} (h1 : PE G X l σ a) (h2 : PE G X r σ b) (h3 : PB2 G X op a b σ v) : PE G X (.BinOp l op r pos) σ v := .i (cI (am h1 (am h2 h3)))
theorem pe_unop {e : Expr} {op : UnaryOp} {pos : Pos} {a v : V} (h1 : PE G X e σ a) (h2 : PU1 G X op a σ v) : PE G X (.UnaryOp op e pos) σ v := .i (ex_unop (am h1 h2))
theorem cS {l r : Expr} {op : CmpOp} {pos : Pos} {a b v : V} (hm : behindInMarks op r = false) (h1 : PE G X l σ a) (h2 : PE G X r σ b) (h3 : PQ G X op a b σ v) : PE G X (.Compare l [op] [r] pos) σ v := .i (ex_cmp hm (am h1 (am h2 h3)))
theorem jn {t b e : Expr} {pos : Pos} {c : Bool} {v1 v2 : V} (h1 : PT G X t σ c) (h2 : c = true -> PE G X b σ v1) (h3 : c = false -> PE G X e σ v2) : PE G X (.IfExp t b e pos) σ (if c = true then v1 else v2) := by
 refine .i ?_
 refine gE (de h1 ⟨fun hc => ?_, fun hc => ?_⟩)
 ·rw [if_pos hc]; exact (h2 hc).o
 ·rw [if_neg (by rw [hc]; decide)]; exact (h3 hc).o
theorem bU {es : List Expr} {k : Nat} {pos : Pos} {vs : List V} (h : PA G X es σ vs) (hl : vs.length <= 1000) : PE G X (.Tuple es k pos) σ (.tup vs) := .i (jD fun q => cQ (h) ⟨hl, rfl, rfl⟩)
theorem ar {o i : Expr} {pos : Pos} {a b v : V} (h1 : PE G X o σ a) (h2 : PE G X i σ b) (h3 : PG G X a b σ v) : PE G X (.Subscript o i pos) σ v := .i (dL (am h1 (am h2 h3)))
theorem hZ {o l u : Expr} {p pos : Pos} {a v : V} {i j : Int} (h1 : PE G X o σ a) (h2 : PE G X l σ (.int i)) (h3 : PE G X u σ (.int j)) (h4 : PS G X a (some i) (some j) σ v) : PE G X (.Subscript o (.Slice (some l) (some u) none p) pos) σ v := .i (ex_slice2 (am h1 (am h2 (am h3 ⟨i, j, rfl, rfl, h4⟩))))
theorem ce {o l : Expr} {p pos : Pos} {a v : V} {i : Int} (h1 : PE G X o σ a) (h2 : PE G X l σ (.int i)) (h4 : PS G X a (some i) none σ v) : PE G X (.Subscript o (.Slice (some l) none none p) pos) σ v := .i (ex_slice1 (am h1 (am h2 ⟨i, rfl, h4⟩)))
theorem ia {o u : Expr} {p pos : Pos} {a v : V} {j : Int} (h1 : PE G X o σ a) (h3 : PE G X u σ (.int j)) (h4 : PS G X a none (some j) σ v) : PE G X (.Subscript o (.Slice none (some u) none p) pos) σ v := .i (ex_slice0 (am h1 (am h3 ⟨j, rfl, h4⟩)))
theorem bu {x : Str} {p pos : Pos} {es : List Expr} {f v : V} {ds : List V} (o : X.Ok G) (hp : ag es = true) (h1 : PE G X (.Name x p) σ f) (hc : callable f = true) (h2 : PA G X es σ ds) (h3 : PC G X f ds σ v) : PE G X (.Call (.Name x p) es [] pos) σ v := .i (cv o hp (am h1 ⟨hc, fun q => cQ h2 h3⟩))
theorem aI {oe : Expr} {name : Str} {apos pos : Pos} {es : List Expr} {a f v : V} {df ds : List V} (ok : X.Ok G) (hp : ag es = true)
  (he : ∃ pl : Env -> Sem Bool, ∀ env, eval (.Call (.Attribute oe name apos) es [] pos) env = (do
   let ov <- eval oe env
   standAt apos.atName
   let (f, first) <- holding [ov] (getMethod ov name (pl env))
   callWith pos f first (backTo pos (starEach es env)) (backToKw pos (keywordEach [] env))))
  (h1 : PE G X oe σ a) (h2 : GM G X a name f df σ) (hc : callable f = true) (h3 : PA G X es σ ds) (h4 : PC G X f (df ++ ds) σ v) : PE G X (.Call (.Attribute oe name apos) es [] pos) σ v := .i (bP ok hp he (am h1 ⟨f, df, hc, h2, fun q => cQ h3 h4⟩))
theorem pe_attr {oe : Expr} {name : Str} {pos : Pos} {a v : V} (he : ∀ env, eval (.Attribute oe name pos) env = (do
   let ov <- eval oe env
   standAt pos.atName
   let r <- holding [ov] (getAttr ov name true)
   letTemporaryGo oe ov r
   pure r)) (h1 : PE G X oe σ a) (h2 : PGA G X a name σ v) : PE G X (.Attribute oe name pos) σ v := .i (ex_attr he (am h1 h2))
theorem pa_nil : PA G X [] σ [] := fun q => eF ⟨rfl, rfl⟩
theorem ah {e : Expr} {es : List Expr} {v : V} {vs : List V} (hs : noStar e = true) (h1 : PE G X e σ v) (h2 : PA G X es σ vs) : PA G X (e :: es) σ (v :: vs) := fun q => bX hs (am h1 (cQ h2 ⟨rfl, rfl⟩))
theorem bw {l r : Expr} {op : CmpOp} {pos : Pos} {a b : V} {c : Bool} (hm : behindInMarks op r = false) (h1 : PE G X l σ a) (h2 : PE G X r σ b) (h3 : PQ G X op a b σ (.bool c)) : PT G X (.Compare l [op] [r] pos) σ c := .i (gX hm (am h1 (am h2 (iN h3 (bf ⟨rfl, rfl⟩)))))
theorem pt_not {e : Expr} {pos : Pos} {c : Bool} (h : PT G X e σ c) : PT G X (.UnaryOp .Not e pos) σ (!c) := .i (tx_not (de h ⟨rfl, rfl⟩))
theorem jm {e : Expr} {v : V} {c : Bool} (hp : plainTest e = true) (h1 : PE G X e σ v) (h2 : PR G X v σ c) : PT G X e σ c := .i (jc hp (am h1 h2))
theorem bB {op : BoolOp} {es : List Expr} {pos : Pos} {c : Bool} (h : PTs G X op es σ c) : PT G X (.BoolOp op es pos) σ c := .i (tx_bool h)
theorem gv {e : Expr} {c : Bool} (h1 : PT G X e σ c) : PTs G X .And [e] σ c := fJ (de h1 ⟨fun hc => gW ⟨hc.symm, rfl⟩, fun hc => ⟨hc.symm, rfl⟩⟩)
theorem eY {e : Expr} {c : Bool} (h1 : PT G X e σ c) : PTs G X .Or [e] σ c := txs_or (de h1 ⟨fun hc => ⟨hc.symm, rfl⟩, fun hc => gW ⟨hc.symm, rfl⟩⟩)
theorem dY {e e' : Expr} {es : List Expr} {c c' : Bool} (h1 : PT G X e σ c) (h2 : c = true -> PTs G X .And (e' :: es) σ c') : PTs G X .And (e :: e' :: es) σ (c && c') := by
 refine fJ (de h1 ⟨fun hc => ?_, fun hc => ?_⟩)
 ·subst hc; exact h2 rfl
 ·subst hc; exact ⟨rfl, rfl⟩
theorem ca {e e' : Expr} {es : List Expr} {c c' : Bool} (h1 : PT G X e σ c) (h2 : c = false -> PTs G X .Or (e' :: es) σ c') : PTs G X .Or (e :: e' :: es) σ (c || c') := by
 refine txs_or (de h1 ⟨fun hc => ?_, fun hc => ?_⟩)
 ·subst hc; exact ⟨rfl, rfl⟩
 ·subst hc; exact h2 rfl
theorem pt_chain {l r_1 r_2 : Expr} {op1 op2 : CmpOp} {ops : List CmpOp} {rs : List Expr} {pos : Pos} {a : V} {c : Bool} (hm : lastMarks (op1 :: op2 :: ops) (r_1 :: r_2 :: rs) = false) (h1 : PE G X l σ a) (h2 : PTC G X a (op1 :: op2 :: ops) (r_1 :: r_2 :: rs) σ c) :
  PT G X (.Compare l (op1 :: op2 :: ops) (r_1 :: r_2 :: rs) pos) σ c := .i (tx_chain hm (am h1 h2))
theorem ptc_last {a b : V} {op : CmpOp} {r : Expr} {c : Bool} (h1 : PE G X r σ b) (h2 : PQ G X op a b σ (.bool c)) : PTC G X a [op] [r] σ c := tc_last (am h1 (iN h2 (bf ⟨rfl, rfl⟩)))
theorem ptc_more {a b : V} {op op' : CmpOp} {ops : List CmpOp} {r r' : Expr} {rs : List Expr} {c c' : Bool} (h1 : PE G X r σ b) (h2 : PQ G X op a b σ (.bool c)) (h3 : c = true -> PTC G X b (op' :: ops) (r' :: rs) σ c') : PTC G X a (op :: op' :: ops) (r :: r' :: rs) σ (c && c') := by
 refine tc_more (am h1 (iN h2 (bf ⟨fun hc => ?_, fun hc => ?_⟩)))
 ·subst hc; exact h3 rfl
 ·subst hc; exact ⟨rfl, rfl⟩
theorem pe_chain {l r_1 r_2 : Expr} {op1 op2 : CmpOp} {ops : List CmpOp} {rs : List Expr} {pos : Pos} {a : V} {c : Bool} (hm : lastMarks (op1 :: op2 :: ops) (r_1 :: r_2 :: rs) = false) (h1 : PE G X l σ a) (h2 : PEC G X a (op1 :: op2 :: ops) (r_1 :: r_2 :: rs) σ (.bool c)) :
  PE G X (.Compare l (op1 :: op2 :: ops) (r_1 :: r_2 :: rs) pos) σ (.bool c) := .i (ex_chain hm (am h1 h2))
theorem pec_last {a b v : V} {op : CmpOp} {r : Expr} (h1 : PE G X r σ b) (h2 : PQ G X op a b σ v) : PEC G X a [op] [r] σ v := ec_last (am h1 h2)
theorem pec_more {a b : V} {op op' : CmpOp} {ops : List CmpOp} {r r' : Expr} {rs : List Expr} {c c' : Bool} (h1 : PE G X r σ b) (h2 : PQ G X op a b σ (.bool c)) (h3 : c = true -> PEC G X b (op' :: ops) (r' :: rs) σ (.bool c')) : PEC G X a (op :: op' :: ops) (r :: r' :: rs) σ (.bool (c && c')) := by
 refine ec_more (am h1 (iN h2 (bf ⟨fun hc => ?_, fun hc => ?_⟩)))
 ·subst hc; exact h3 rfl
 ·subst hc; exact ⟨rfl, rfl⟩
theorem cf {op : BoolOp} {es : List Expr} {pos : Pos} {v : V} (h : PEB G X op es σ v) : PE G X (.BoolOp op es pos) σ v := .i (iI h)
theorem dI {op : BoolOp} {e : Expr} {v : V} (h : PE G X e σ v) : PEB G X op [e] σ v := eb_last h.o
theorem d9 {e e' : Expr} {es : List Expr} {c c' : Bool} (h1 : PE G X e σ (.bool c)) (h2 : c = true -> PEB G X .And (e' :: es) σ (.bool c')) : PEB G X .And (e :: e' :: es) σ (.bool (c && c')) := by
 refine eb_and (am h1 (bf ⟨fun hc => ?_, fun hc => ?_⟩))
 ·subst hc; exact h2 rfl
 ·subst hc; exact ⟨rfl, rfl⟩
theorem peb_or {e e' : Expr} {es : List Expr} {c c' : Bool} (h1 : PE G X e σ (.bool c)) (h2 : c = false -> PEB G X .Or (e' :: es) σ (.bool c')) : PEB G X .Or (e :: e' :: es) σ (.bool (c || c')) := by
 refine eb_or (am h1 (bf ⟨fun hc => ?_, fun hc => ?_⟩))
 ·subst hc; exact ⟨rfl, rfl⟩
 ·subst hc; exact h2 rfl
theorem g9 {e : Expr} {pos : Pos} {v : V} (p : PE G X e σ v) (h : ΦF (.ret v) σ) : SX G X (.Return (some e) pos) ΦF Ψ σ := fu (am p h)
theorem sp_if {t : Expr} {b e : List Stmt} {pos : Pos} {c : Bool} (p : PT G X t σ c) (h1 : c = true -> SSX G X b ΦF Ψ σ) (h2 : c = false -> SSX G X e ΦF Ψ σ) : SX G X (.If t b e pos) ΦF Ψ σ := sx_if (de p ⟨h1, h2⟩)
theorem sp_assign {x : Str} {xp pos : Pos} {e : Expr} {d : V} {l' : List (Str × Option V)} (ok : X.Ok G) (hf : X.md = .fr) (hn : notComp e = true) (p : PE G X e σ d) (hp : Put x d σ.loc l') (h : ΦF .next { σ with loc := l' }) : SX G X (.Assign [.Name x xp] e pos) ΦF Ψ σ := fv ok hf hn (am p ⟨l', hp, h⟩)
theorem ac {e : Expr} {pos : Pos} {ts : List Stmt} {v : V} (p : PE G X e σ v) (h : ΦF (.ret v) σ) : SSX G X (.Return (some e) pos :: ts) ΦF Ψ σ := ay (g9 p h)
theorem az {t : Expr} {b e : List Stmt} {pos : Pos} {ts : List Stmt} {c : Bool} (p : PT G X t σ c) (h1 : c = true -> SSX G X b (fun f σ1 => match f with | .next => SSX G X ts ΦF Ψ σ1 | f => ΦF f σ1) Ψ σ) (h2 : c = false -> SSX G X e (fun f σ1 => match f with | .next => SSX G X ts ΦF Ψ σ1 | f => ΦF f σ1) Ψ σ) : SSX G X (.If t b e pos :: ts) ΦF Ψ σ := ay (sp_if p h1 h2)
theorem aw {x : Str} {xp pos : Pos} {e : Expr} {ts : List Stmt} {d : V} {l' : List (Str × Option V)} (ok : X.Ok G) (hf : X.md = .fr) (hn : notComp e = true) (p : PE G X e σ d) (hp : Put x d σ.loc l') (h : SSX G X ts ΦF Ψ { σ with loc := l' }) : SSX G X (.Assign [.Name x xp] e pos :: ts) ΦF Ψ σ := ay (sp_assign ok hf hn p hp h)
end
section
variable {G : Gx} {X : Fx} {σ : St} {W : Wd} {Ψ : Ps} {s : Shared} {Φ : V -> St -> Prop} {ΦB : Bool -> St -> Prop} {ΦF : Fl -> St -> Prop}
theorem fA {a b : Int} : PB2 G X .Add (.int a) (.int b) σ (.int (a + b)) := iT ⟨rfl, rfl⟩
theorem pb_sub {a b : Int} : PB2 G X .Sub (.int a) (.int b) σ (.int (a - b)) := bin_sub ⟨rfl, rfl⟩
theorem pb_mod {a b : Int} (h : b ≠ 0) : PB2 G X .Mod (.int a) (.int b) σ (.int (a.fmod b)) := ff h ⟨rfl, rfl⟩
theorem eL {b : Int} (h0 : -1000000000 <= b) (h1 : b <= 1000000000) : Builtin.Int.intBits b <= 64 := by
 unfold Builtin.Int.intBits
 by_cases q : (b == 0) = true
 ·rw [if_pos q]; decide
 ·rw [if_neg q]
  have hb : b ≠ 0 := by simpa using q
  have : b.natAbs < 2 ^ 63 := by exact (Om.q 1 1 .f57) _ _ h0 h1 (Om.nab _)
  have := (Nat.log2_lt (by exact (Om.q 1 1 (.i (.L (.g (.k 1000000000)) .x0) (.i (.L .x0 (.k 1000000000)) (.i (.n (.E .x0 .k0)) (.i (.o (.a (.L .k0 .x0) (.E (.c .x0) .x0)) (.a (.T .x0 .k0) (.E (.c .x0) (.g .x0)))) (.n (.e .x0 .k0))))))) _ _ h0 h1 hb (Om.nab _) : b.natAbs ≠ 0)).mpr this
  exact (Om.q 1 0 (.i (.t .x0 (.k 63)) (.l (.a .x0 .k1) (.k 64)))) _ this
theorem gB {a b : Int} (h0 : -1000000000 <= b) (h1 : b <= 1000000000) : PB2 G X .Mult (.int a) (.int b) σ (.int (a * b)) := iS (IntMulOk.of_right (eL h0 h1)) ⟨rfl, rfl⟩
theorem pb_mul' {a b : Int} (h0 : -1000000000 <= a) (h1 : a <= 1000000000) : PB2 G X .Mult (.int a) (.int b) σ (.int (a * b)) := iS (IntMulOk.of_left (eL h0 h1)) ⟨rfl, rfl⟩
theorem ic {a b : Int} (hb : b ≠ 0) (h0 : -1000000000 <= b) (h1 : b <= 1000000000) : PB2 G X .FloorDiv (.int a) (.int b) σ (.int (a.fdiv b)) := by
 intro W x y rx ry s R
 cases rx.inv; cases ry.inv
 have hp : ¬ (Builtin.divisionGoesByPylong a b) = true := by
  unfold Builtin.divisionGoesByPylong
  have hb' : (b == 0) = false := by simpa using hb
  have : b.natAbs < 2 ^ 63 := by exact (Om.q 1 1 .f57) _ _ h0 h1 (Om.nab _)
  have := (Nat.log2_lt (by exact (Om.q 1 1 (.i (.n (.E .x0 .k0)) (.i (.L (.g (.k 1000000000)) .x0) (.i (.L .x0 (.k 1000000000)) (.i (.o (.a (.L .k0 .x0) (.E (.c .x0) .x0)) (.a (.T .x0 .k0) (.E (.c .x0) (.g .x0)))) (.n (.e .x0 .k0))))))) _ _ hb h0 h1 (Om.nab _))).mpr this
  simp only [hb', Bool.false_eq_true, if_false, Bool.and_eq_true, decide_eq_true_eq, not_and]
  exact (Om.q 3 0 (.i (.t .x2 (.k 63)) (.i (.a (.l (.m 30 .x1) .x2) (.t .x2 (.a (.m 30 .x1) (.k 30)))) (.i (.t (.k 300) (.a .x1 .k1)) (.n (.t (.a (.a .x1 .k1) (.k 150)) .x0)))))) _ _ _ this (Om.ndv _ 30 rfl)
 refine PySem.AutoIntOps.floordiv_1 (by simpa using hb) hp ?_
 exact ⟨W, _, σ, .rfl, .int _ _, R.tok, rfl, rfl⟩
theorem pb_addb {b c : List UInt8} (hz : b.length + c.length <= 1000000) : PB2 G X .Add (.bytes b) (.bytes c) σ (.bytes (b ++ c)) := bin_add_b hz ⟨rfl, rfl⟩
theorem pu_neg {a : Int} : PU1 G X .USub (.int a) σ (.int (-a)) := un_neg ⟨rfl, rfl⟩
theorem pq_eq {a b : Int} : PQ G X .Eq (.int a) (.int b) σ (.bool (decide (a = b))) := cmp_eq ⟨rfl, rfl⟩
theorem pq_ne {a b : Int} : PQ G X .NotEq (.int a) (.int b) σ (.bool (decide (a ≠ b))) := cmp_ne ⟨rfl, rfl⟩
theorem pq_lt {a b : Int} : PQ G X .Lt (.int a) (.int b) σ (.bool (decide (a < b))) := cmp_lt ⟨rfl, rfl⟩
theorem pq_le {a b : Int} : PQ G X .LtE (.int a) (.int b) σ (.bool (decide (a <= b))) := cmp_le ⟨rfl, rfl⟩
theorem pq_gt {a b : Int} : PQ G X .Gt (.int a) (.int b) σ (.bool (decide (b < a))) := cmp_gt ⟨rfl, rfl⟩
theorem pq_ge {a b : Int} : PQ G X .GtE (.int a) (.int b) σ (.bool (decide (b <= a))) := cmp_ge ⟨rfl, rfl⟩
theorem pq_eqb {a b : List UInt8} : PQ G X .Eq (.bytes a) (.bytes b) σ (.bool (decide (a = b))) := cmp_eq_b ⟨rfl, rfl⟩
theorem pq_neb {a b : List UInt8} : PQ G X .NotEq (.bytes a) (.bytes b) σ (.bool (decide (a ≠ b))) := cmp_ne_b ⟨rfl, rfl⟩
theorem pq_inb {b : List UInt8} {i : Int} (h0 : 0 <= i) (h1 : i < 256) : PQ G X .In (.int i) (.bytes b) σ (.bool (b.contains i.toNat.toUInt8)) := cmp_in_ib h0 h1 ⟨rfl, rfl⟩
theorem pr_bool {c : Bool} : PR G X (.bool c) σ c := bf ⟨rfl, rfl⟩
theorem pc_lenb {b : List UInt8} (hz : b.length <= 1000000) : PC G X (.val (.builtin "len")) [.bytes b] σ (.int b.length) := len_b hz ⟨rfl, rfl⟩
theorem pc_lenl {b : List V} (o : X.Ok G) (hz : b.length <= 1000000) : PC G X (.val (.builtin "len")) [.lst b] σ (.int b.length) := len_l o hz ⟨rfl, rfl⟩
theorem pg_b {b : List UInt8} {i : Int} (hz : b.length <= 1000000) (h0 : 0 <= i) (h1 : i < b.length) : PG G X (.bytes b) (.int i) σ (.int (byB b i)) := get_b hz h0 h1 ⟨rfl, rfl⟩
theorem ps_b {b : List UInt8} {i j : Int} (o : X.Ok G) (hz : b.length <= 1000000) (h0 : 0 <= i) (h1 : 0 <= j) : PS G X (.bytes b) (some i) (some j) σ (.bytes (slB b i j)) := slc_b o hz h0 h1 ⟨rfl, rfl⟩
theorem ps_b0 {b : List UInt8} {j : Int} (o : X.Ok G) (hz : b.length <= 1000000) (h1 : 0 <= j) : PS G X (.bytes b) none (some j) σ (.bytes (b.take j.toNat)) := slc_b0 o hz h1 ⟨rfl, rfl⟩
theorem ps_b1 {b : List UInt8} {i : Int} (o : X.Ok G) (hz : b.length <= 1000000) (h1 : 0 <= i) : PS G X (.bytes b) (some i) none σ (.bytes (b.drop i.toNat)) := slc_b1 o hz h1 ⟨rfl, rfl⟩
theorem byB_lo (b : List UInt8) (i : Int) : 0 <= byB b i := by unfold byB; exact (Om.q 1 0 (.L .k0 (.c .x0))) _
theorem byB_hi (b : List UInt8) (i : Int) : byB b i < 256 := by unfold byB; have := (b.getD i.toNat 0).toNat_lt; exact (Om.q 1 0 (.i (.t .x0 (.k 256)) (.T (.c .x0) (.k 256)))) _ this
end
end Mine
namespace Mine
section
variable {G : Gx} {X : Fx} {σ : St}
theorem gy {t b e : Expr} {pos : Pos} {c : Bool} {v1 v2 : Int} (h1 : PT G X t σ c) (h2 : c = true -> PE G X b σ (.int v1)) (h3 : c = false -> PE G X e σ (.int v2)) : PE G X (.IfExp t b e pos) σ (.int (if c = true then v1 else v2)) := by
 have := jn (pos := pos) h1 h2 h3
 cases c <;> exact this
theorem pe_ifS {t b e : Expr} {pos : Pos} {c : Bool} {v1 v2 : List Nat} (h1 : PT G X t σ c) (h2 : c = true -> PE G X b σ (.str v1)) (h3 : c = false -> PE G X e σ (.str v2)) : PE G X (.IfExp t b e pos) σ (.str (if c = true then v1 else v2)) := by
 have := jn (pos := pos) h1 h2 h3
 cases c <;> exact this
theorem aq {x : Str} {D : Df} (names others : List Str) {ds : List V} (glb : List (Str × V)) {v : V} (o : X.Ok G) (hr : 1 <= X.room) (fn : FnG G x D)
  (dk : DefOk x x D names others ds.length glb) (hg : Gls G glb) (hv : v.closed σ.heap.length = true)
  (hbody : ∀ X', X'.Ok G -> X'.md = .fr -> X'.A.handled = X.A.handled -> X'.room = X.room - 1 -> SSX G X' D.body (fun fl σ' => fl = .ret v /\ σ'.heap = σ.heap) noPs ⟨mkLoc names ds others, glb, σ.heap⟩) :
  PC G X (.glob x) ds σ v := by
 refine dN (Ψ := noPs) o hr fn (.inr fun a h => h) dk hg fun X' o' hmd hh hr' hsc hcl => ?_
 refine bk (hbody X' o' hmd hh hr') fun fl σ' yy => ?_
 obtain ⟨e1, e2⟩ := yy
 subst e1
 exact gw hv hcl e2 ⟨rfl, rfl⟩
theorem fz {x : Str} {D : Df} (names others : List Str) {ds : List V} (glb : List (Str × V)) {v : V} (o : X.Ok G) (hr : 1 <= X.room) (fn : FnG G x D)
  (dk : DefOk x x D names others ds.length glb) (hg : Gls G glb) (hv : v.closed σ.heap.length = true)
  (hbody : ∀ X', X'.Ok G -> X'.md = .fr -> X'.A.handled = X.A.handled -> X'.room = X.room - 1 -> X'.scope = D.scope -> SSX G X' D.body (fun fl σ' => fl = .ret v /\ σ'.heap = σ.heap) noPs ⟨mkLoc names ds others, glb, σ.heap⟩) :
  PC G X (.glob x) ds σ v := by
 refine dN (Ψ := noPs) o hr fn (.inr fun a h => h) dk hg fun X' o' hmd hh hr' hsc hcl => ?_
 refine bk (hbody X' o' hmd hh hr' hsc) fun fl σ' yy => ?_
 obtain ⟨e1, e2⟩ := yy
 subst e1
 exact gw hv hcl e2 ⟨rfl, rfl⟩
end
noncomputable abbrev tx (l : List Nat) : Str := ⟨l.toArray⟩
theorem aY (x : Str) : x.length = x.cps.toList.length := by simp [Str.length]
theorem fY (x : Str) : x.cps.toList.length = x.length := by simp [Str.length]
theorem g7 (x y : Str) : (x ++ y).cps.toList = x.cps.toList ++ y.cps.toList := by rw [PySem.Str.cps_append, Array.toList_append]
theorem bc {x : Str} {l : List Nat} (h : x.cps.toList = l) : x = ⟨l.toArray⟩ := by cases x; simp at h; simp [<- h]
section
variable {G : Gx} {X : Fx} {σ : St} {W : Wd} {Ψ : Ps} {s : Shared} {Φ : V -> St -> Prop} {ΦB : Bool -> St -> Prop}
theorem cmp_eq_s {a b : List Nat} (h : Φ (.bool (decide (a = b))) σ) : CMP G X .Eq (.str a) (.str b) Φ Ψ σ := by
 intro W x y rx ry s R
 cases rx.inv with
 | str x t => cases ry.inv with
  | str y u => exact P.eq_str ⟨W, _, σ, .rfl, .bool _, R, by rw [beq_dec]; exact h⟩
theorem cmp_ne_s {a b : List Nat} (h : Φ (.bool (decide (a ≠ b))) σ) : CMP G X .NotEq (.str a) (.str b) Φ Ψ σ := by
 intro W x y rx ry s R
 cases rx.inv with
 | str x t => cases ry.inv with
  | str y u => exact P.ne_str ⟨W, _, σ, .rfl, .bool _, R, by rw [bne_dec]; exact h⟩
theorem cmp_le_s {a b : List Nat} (h : Φ (.bool (!decide (b < a))) σ) : CMP G X .LtE (.str a) (.str b) Φ Ψ σ := by
 intro W x y rx ry s R
 cases rx.inv with
 | str x t => cases ry.inv with
  | str y u => exact P.le_str ⟨W, _, σ, .rfl, .bool _, R, h⟩
theorem cz {a b : List Nat} (hz : a.length + b.length <= 1000000) (h : Φ (.str (a ++ b)) σ) : BIN G X .Add (.str a) (.str b) Φ Ψ σ := by
 intro W x y rx ry s R
 cases rx.inv with
 | str x t => cases ry.inv with
  | str y u =>
   refine SB.add (fun t' k => ⟨W, _, σ, .rfl, .str _ _, R.tok, ?_⟩) (by rw [sizeLine_eq, aY, aY]; exact (Om.q 2 0 .f53) _ _ hz)
   rw [g7]; exact h
theorem bin_mul_s {a : List Nat} {n : Int} (hz : a.length = 1) (h1 : n <= 1000) (h0 : -1000000 <= n) (h : Φ (.str (List.replicate n.toNat a).flatten) σ) : BIN G X .Mult (.str a) (.int n) Φ Ψ σ := by
 intro W x y rx ry s R
 cases rx.inv with
 | str x t => cases ry.inv with
  | int u =>
   have hx : x.length = 1 := by rw [aY]; exact hz
   refine SB.mul ⟨?_, fun _ _ => ?_, fun _ _ => ?_⟩ fun t' k => ⟨W, _, σ, .rfl, .str _ _, R.tok, ?_⟩
   ·rw [decide_eq_false (by exact (Om.q 0 1 (.i (.L .x0 (.k 1000)) (.i (.L (.g (.k 1000000)) .x0) (.n (.T .x0 (.g (.k 9223372036854775808))))))) _ h1 h0), decide_eq_false (by exact (Om.q 0 1 (.i (.L .x0 (.k 1000)) (.i (.L (.g (.k 1000000)) .x0) (.n (.L (.k 9223372036854775808) .x0))))) _ h1 h0)]; rfl
   ·rw [hx]
    rename_i q _
    have : (1 : Int) <= (2 ^ 63 - 1) / n := by
     rw [Int.le_ediv_iff_mul_le (by exact (Om.q 0 1 (.i (.L .x0 (.k 1000)) (.i (.L (.g (.k 1000000)) .x0) (.i (.n (.T .x0 .k1)) (.T .k0 .x0))))) _ h1 h0 q)]
     exact (Om.q 0 1 (.i (.L .x0 (.k 1000)) (.i (.L (.g (.k 1000000)) .x0) (.i (.n (.T .x0 .k1)) (.L (.m 1 .x0) (.s (.k 9223372036854775808) .k1)))))) _ h1 h0 q
    simpa using this
   ·rw [hx]; unfold Builtin.Str.tooLong; rw [sizeLine_eq]; simp; exact (Om.q 0 1 (.i (.L .x0 (.k 1000)) (.i (.L (.g (.k 1000000)) .x0) (.i (.n (.T .x0 .k1)) (.L .x0 (.k 16777216)))))) _ h1 h0 (by assumption)
   ·have key : ∀ (m : Nat) (c : Array Nat) (acc : Array Nat), ((List.replicate m c).foldl (· ++ ·) acc).toList = acc.toList ++ (List.replicate m c.toList).flatten := by
     intro m
     induction m with
     | zero => intro c acc; simp
     | succ m ih => intro c acc; rw [List.replicate_succ, List.foldl_cons, ih]; simp [List.replicate_succ]
    have e : (Txt.mul x n).cps.toList = (List.replicate n.toNat x.cps.toList).flatten := by
     unfold Txt.mul
     by_cases hn : n < 1
     ·rw [if_pos hn]
      have : n.toNat = 0 := by exact (Om.q 1 1 (.i (.L .x0 (.k 1000)) (.i (.L (.g (.k 1000000)) .x0) (.i (.T .x0 .k1) (.i (.o (.a (.L .k0 .x0) (.E (.c .x0) .x0)) (.a (.T .x0 .k0) (.e .x0 .k0))) (.e .x0 .k0)))))) _ _ h1 h0 hn (Om.tno _)
      rw [this]; rfl
     ·rw [if_neg hn]
      by_cases hc : (n == 1 || x.length == 0) = true
      ·rw [if_pos hc]
       rw [hx] at hc
       have : n = 1 := by simpa using hc
       subst this
       simp
      ·rw [if_neg hc]
       have := key n.toNat x.cps #[]
       simpa using this
    rw [e]; exact h
theorem cmp_in_s1 {c : Nat} {b : List Nat} (h : Φ (.bool (b.contains c)) σ) : CMP G X .In (.str [c]) (.str b) Φ Ψ σ := by
 intro W x y rx ry s R
 generalize hc : [c] = cl at rx
 cases rx.inv with
 | str x t => cases ry.inv with
  | str y u =>
   refine P.in_str ⟨W, _, σ, .rfl, .bool _, R, ?_⟩
   have e : x = ⟨#[c]⟩ := bc hc.symm
   rw [e]
   have := StrLaws.found_one y c
   rw [this]
   simpa [List.contains_iff_mem] using h
theorem jW {c : Nat} {b : List Nat} (h : Φ (.bool (!b.contains c)) σ) : CMP G X .NotIn (.str [c]) (.str b) Φ Ψ σ := by
 intro W x y rx ry s R
 generalize hc : [c] = cl at rx
 cases rx.inv with
 | str x t => cases ry.inv with
  | str y u =>
   refine P.notIn_str ⟨W, _, σ, .rfl, .bool _, R, ?_⟩
   have e : x = ⟨#[c]⟩ := bc hc.symm
   rw [e]
   have := StrLaws.found_one y c
   rw [this]
   simpa [List.contains_iff_mem] using h
theorem len_s {a : List Nat} (hz : a.length <= 1000000) (h : Φ (.int a.length) σ) : aR G X (.val (.builtin "len")) [.str a] Φ Ψ σ := by
 intro W vf vs rf rs s R
 cases rf.inv
 cases rs.inv with
 | cons r rs =>
  cases rs.inv
  cases r.inv with
  | str x t =>
   refine P.len_str (by rw [aY]; exact (Om.q 1 0 (.i (.l .x0 (.k 1000000)) (.n (.L (.k 9223372036854775808) (.c .x0))))) _ hz) ⟨W, _, σ, .rfl, .int _ _, R.tok, ?_⟩
   rw [aY]; exact h
theorem get_s {a : List Nat} {k : Int} {c : Nat} (h0 : 0 <= k) (hz : a.length <= 1000000) (hc : a[k.toNat]? = some c) (h : Φ (.str [c]) σ) : GET G X (.str a) (.int k) Φ Ψ σ := by
 intro W value slice vo vi ro ri hs s R
 cases ro.inv with
 | str x t => cases ri.inv with
  | int u =>
   have hlt := (List.getElem?_eq_some_iff.mp hc).1
   have hl : k.toNat < x.length := by rw [aY]; exact hlt
   have hl2 : x.length <= 1000000 := by rw [aY]; exact hz
   refine eV (T := "str") (typeIs_str s x t) PySem.F.slot_str_getitem.lookup hs (P.getItem_str (c := c) ?_ ?_ ⟨W, _, σ, .rfl, .str ⟨#[c]⟩ _, R.tok, h⟩)
   ·rw [decide_eq_false (by exact (Om.q 0 1 (.i (.L .k0 .x0) (.n (.T .x0 (.g (.k 9223372036854775808)))))) _ h0), decide_eq_false (by exact (Om.q 2 1 (.i (.l .x1 (.k 1000000)) (.i (.t .x0 .x1) (.i (.o (.a (.L .k0 .x0) (.E (.c .x0) .x0)) (.a (.T .x0 .k0) (.e .x0 .k0))) (.n (.L (.k 9223372036854775808) .x0)))))) _ _ _ hz hlt (Om.tno _))]; rfl
   ·have : ¬ k < 0 := by exact (Om.q 0 1 .f18) _ h0
    have h2 : k < (x.length : Int) := by exact (Om.q 2 1 (.i (.L .k0 .x0) (.i (.t .x1 .x0) (.i (.l .x0 (.k 1000000)) (.i (.o (.a (.L .k0 .x0) (.E (.c .x1) .x0)) (.a (.T .x0 .k0) (.e .x1 .k0))) (.T .x0 (.c .x0))))))) _ _ _ h0 hl hl2 (Om.tno _)
    simp [seqIndex?, this, h0, h2]
    simpa using hc
theorem chr_ {i : Int} (h0 : 0 <= i) (h1 : i <= 1114111) (h : Φ (.str [i.toNat]) σ) : aR G X (.val (.builtin "chr")) [.int i] Φ Ψ σ := by
 intro W vf vs rf rs s R
 cases rf.inv
 cases rs.inv with
 | cons r rs =>
  cases rs.inv
  cases r.inv with
  | int t => exact chr_of_range h0 h1 ⟨W, _, σ, .rfl, .str ⟨#[i.toNat]⟩ _, R.tok, h⟩
theorem ord_ {c : Nat} (h : Φ (.int c) σ) : aR G X (.val (.builtin "ord")) [.str [c]] Φ Ψ σ := by
 intro W vf vs rf rs s R
 cases rf.inv
 cases rs.inv with
 | cons r rs =>
  cases rs.inv
  generalize hc : [c] = cl at r
  cases r.inv with
  | str x t =>
   have e : x = ⟨#[c]⟩ := bc hc.symm
   subst e
   exact ord_of_one rfl ⟨W, _, σ, .rfl, .int _ _, R.tok, h⟩
theorem slc_s_ {a : Str} {t : Tok} {lo hi : Option Int} {l u : Value} {value slice : Expr} (hz : a.length <= 1000000) (hl : IsPart l lo) (hu : IsPart u hi) (R : RelS G X W σ s)
  (hs : subscripted slice false (.str a t) (.ref s.heap.objs.size) = operate [.ref s.heap.objs.size, .str a t] (getItem (.str a t) (.ref s.heap.objs.size))) (h : Φ (.str (Txt.slice a lo hi).cps.toList) σ) :
  wpAny G.M X.A (subscriptTail value slice (.str a t) (.ref s.heap.objs.size)) (PV G X W Φ) (EE G X Ψ) { s with heap := s.heap.push { cls := .type "slice", data := .fields #[l, u, .none] } } := by
 refine eV (T := "str") (typeIs_str _ a t) PySem.F.slot_str_getitem.lookup ⟨_, hs⟩ ?_
 have kp : KeptH (fun h => ∀ b o, s.heap.get? b = some o -> h.get? b = some o) := fun _ ob a => fun b o e => Heap.get?_push_of_some _ (a b o e)
 have fin : ∀ h' t' k, (∀ b o, s.heap.get? b = some o -> h'.get? b = some o) -> PV G X W Φ (.str (Txt.slice a lo hi) t') { s with heap := h', toks := k } := fun h' t' k kk => ⟨W, _, σ, .rfl, .str _ _, R.grow kk, h⟩
 have hz' : a.length <= sizeLine := by rw [sizeLine_eq]; exact Om.hi hz
 have it : ∀ {o i : Value} {Q : Value -> Shared -> Prop} {s : Shared}, ItemOn G.M X.A (EE G X Ψ) o i Q s -> wpAny G.M X.A (getItem o i) Q (EE G X Ψ) s := fun h => by
  obtain ⟨T, id, _, _, hg⟩ := h; exact hg
 cases hl <;> cases hu
 ·exact it (SBH.sliceItem_nn kp (fun _ _ e => e) fin hz')
 ·exact it (SBH.sliceItem_ns kp (fun _ _ e => e) fin hz')
 ·exact it (SBH.sliceItem_sn kp (fun _ _ e => e) fin hz')
 ·exact it (SBH.sliceItem_ss kp (fun _ _ e => e) fin hz')
end
theorem kK {x : Str} {i : Int} (h0 : 0 <= i) : (Txt.slice x (some i) none).cps.toList = x.cps.toList.drop i.toNat := by
 rcases Int.le_total i x.length with h | h
 ·rw [PyProof.Rows.slice_from_eq h0 h rfl]
  have := aY x
  rw [List.take_of_length_le (by rw [List.length_drop]; exact (Om.q 5 1 (.i (.L .k0 .x0) (.i (.L .x0 (.c .x4)) (.i (.e .x4 .x3) (.i (.o (.a (.L .k0 .x0) (.E (.c .x1) .x0)) (.a (.T .x0 .k0) (.e .x1 .k0))) (.i (.o (.a (.l .x1 .x3) (.e (.a .x2 .x1) .x3)) (.a (.t .x3 .x1) (.e .x2 .k0))) (.i (.o (.a (.L .k0 (.s (.c .x4) .x0)) (.E (.c .x0) (.s (.c .x4) .x0))) (.a (.T (.s (.c .x4) .x0) .k0) (.e .x0 .k0))) (.l .x2 .x0)))))))) _ _ (Nat.sub _ _) (Int.toNat _) (Int.toNat _) _ h0 h this ((Om.tno _)) ((Om.sbo _ _)) ((Om.tno _)))]
 ·rw [PyProof.Rows.slice_beyond h, List.drop_of_length_le (by rw [fY]; exact (Om.q 2 1 .f58) _ _ _ h0 h (Om.tno _))]; rfl
theorem slice_to {x : Str} {j : Int} (h0 : 0 <= j) : (Txt.slice x none (some j)).cps.toList = x.cps.toList.take j.toNat := by
 have key : ∀ j : Int, 0 <= j -> j <= x.length -> (Txt.slice x none (some j)).cps.toList = x.cps.toList.take j.toNat := fun j h0 h => by
  rw [eq_of_beq (PyProof.Rows.slice_closes_toL h0 h)]; simp
 rcases Int.le_total j x.length with h | h
 ·exact key j h0 h
 ·have e : Txt.slice x none (some j) = Txt.slice x none (some (x.length : Int)) := by
   have : Builtin.Str.strSliceIndices none (some j) 1 x.length = Builtin.Str.strSliceIndices none (some (x.length : Int)) 1 x.length := by
    unfold Builtin.Str.strSliceIndices
    have h1 : ¬ j < 0 := by exact (Om.q 0 1 .f18) _ h0
    have h2 : ¬ (x.length : Int) < 0 := by exact (Om.q 1 0 (.n (.T (.c .x0) .k0))) _
    simp only [if_neg h1, if_neg h2, show (1 : Int) > 0 by decide, if_true]
    rw [Int.min_eq_right h, Int.min_self]
   unfold Txt.slice
   rw [this]
  rw [e, key _ (by exact (Om.q 1 0 (.L .k0 (.c .x0))) _) (Int.le_refl _), List.take_of_length_le (by rw [fY]; exact (Om.q 2 0 (.i (.o (.a (.L .k0 (.c .x1)) (.E (.c .x0) (.c .x1))) (.a (.T (.c .x1) .k0) (.e .x0 .k0))) (.l .x1 .x0))) _ _ (Om.tno _)), List.take_of_length_le (by rw [fY]; exact (Om.q 2 1 .f58) _ _ _ h0 h (Om.tno _))]
theorem slice_in {x : Str} {i j : Int} (h0 : 0 <= i) (h1 : i <= j) (h2 : j <= x.length) : (Txt.slice x (some i) (some j)).cps.toList = slB x.cps.toList i j := by
 rw [eq_of_beq (PyProof.Rows.slice_closesL h0 h1 h2)]
 unfold slB
 rw [show (j - i).toNat = j.toNat - i.toNat by exact (Om.q 4 2 (.i (.L .k0 .x1) (.i (.L .x1 .x0) (.i (.o (.a (.L .k0 (.s .x0 .x1)) (.E (.c .x3) (.s .x0 .x1))) (.a (.T (.s .x0 .x1) .k0) (.e .x3 .k0))) (.i (.o (.a (.L .k0 .x0) (.E (.c .x1) .x0)) (.a (.T .x0 .k0) (.e .x1 .k0))) (.i (.o (.a (.L .k0 .x1) (.E (.c .x0) .x1)) (.a (.T .x1 .k0) (.e .x0 .k0))) (.i (.o (.a (.l .x0 .x1) (.e (.a .x2 .x0) .x1)) (.a (.t .x1 .x0) (.e .x2 .k0))) (.e .x3 .x2)))))))) (Int.toNat _) (Nat.sub _ _) (Int.toNat _) (Int.toNat _) _ _ h0 h1 ((Om.tno _)) ((Om.tno _)) ((Om.tno _)) ((Om.sbo _ _))]
section
variable {G : Gx} {X : Fx} {σ : St} {W : Wd} {Ψ : Ps} {s : Shared} {Φ : V -> St -> Prop} {ΦB : Bool -> St -> Prop}
theorem slc_s1 {b : List Nat} {i : Int} (hz : b.length <= 1000000) (h1 : 0 <= i) (h : Φ (.str (b.drop i.toNat)) σ) : SLC G X (.str b) (some i) none Φ Ψ σ := by
 intro W value slice vo l u ro hl hu s R hs
 cases ro.inv with
 | str x t => exact slc_s_ (by rw [aY]; exact hz) hl hu R hs (by rw [kK h1]; exact h)
theorem slc_s0 {b : List Nat} {j : Int} (hz : b.length <= 1000000) (h1 : 0 <= j) (h : Φ (.str (b.take j.toNat)) σ) : SLC G X (.str b) none (some j) Φ Ψ σ := by
 intro W value slice vo l u ro hl hu s R hs
 cases ro.inv with
 | str x t => exact slc_s_ (by rw [aY]; exact hz) hl hu R hs (by rw [slice_to h1]; exact h)
theorem slc_s2 {b : List Nat} {i j : Int} (hz : b.length <= 1000000) (h0 : 0 <= i) (h1 : i <= j) (h2 : j <= b.length) (h : Φ (.str (slB b i j)) σ) : SLC G X (.str b) (some i) (some j) Φ Ψ σ := by
 intro W value slice vo l u ro hl hu s R hs
 cases ro.inv with
 | str x t => exact slc_s_ (by rw [aY]; exact hz) hl hu R hs (by rw [slice_in h0 h1 (by rw [aY]; exact h2)]; exact h)
end
noncomputable def lowL (l : List Nat) : List Nat := l.flatMap Unicode.lowerOf
noncomputable def uppL (l : List Nat) : List Nat := l.flatMap Unicode.upperOf
theorem fV (f : Nat -> Nat -> List Nat) (l : List Nat) : ((l.toArray.mapIdx fun i c => (f i c).toArray).flatten).toList = (l.mapIdx f).flatten := by
 rw [List.mapIdx_toArray]
 have : ∀ (ls : List (List Nat)), (ls.map List.toArray).toArray.flatten.toList = ls.flatten := by
  intro ls
  rw [Array.toList_flatten]
  simp [Function.comp_def]
 rw [<- this]
 congr 3
 apply List.ext_getElem <;> simp
theorem low_eq {x : Str} (h : ∀ c ∈ x.cps.toList, c < 256) : (Txt.lower x).cps.toList = lowL x.cps.toList := by
 unfold Txt.lower placed
 show ((x.cps.mapIdx fun i c => (Unicode.lowerAt x.cps i).toArray).flatten).toList = _
 have e : (x.cps.mapIdx fun i c => (Unicode.lowerAt x.cps i).toArray) = (x.cps.mapIdx fun i c => (Unicode.lowerOf c).toArray) := by
  apply Array.ext
  ·simp
  ·intro i h1 h2
   simp only [Array.getElem_mapIdx]
   have hi : i < x.cps.size := by simpa using h1
   unfold Unicode.lowerAt
   rw [Array.getElem?_eq_getElem hi]
   have hc := h x.cps[i] (Array.mem_toList_iff.mpr (Array.getElem_mem hi))
   have : (x.cps[i] == 0x3A3) = false := by simp; exact (Om.q 3 0 (.i (.t .x2 .x1) (.i (.t .x0 (.k 256)) (.n (.e .x0 (.k 931)))))) _ _ _ hi hc
   simp [this]
 rw [e]
 have := fV (fun _ c => Unicode.lowerOf c) x.cps.toList
 rw [Array.toArray_toList] at this
 rw [this]
 unfold lowL
 rw [List.flatMap_def]
 congr 1
 apply List.ext_getElem <;> simp
theorem upp_eq {x : Str} : (Txt.upper x).cps.toList = uppL x.cps.toList := by
 unfold Txt.upper placed
 have := fV (fun _ c => Unicode.upperOf c) x.cps.toList
 rw [Array.toArray_toList] at this
 rw [this]
 unfold uppL
 rw [List.flatMap_def]
 congr 1
 apply List.ext_getElem <;> simp
theorem lower_len : ∀ c, c < 256 -> (Unicode.lowerOf c).length = 1 := by decide +kernel
theorem upper_len : ∀ c, c < 256 -> (Unicode.upperOf c).length <= 2 := by decide +kernel
theorem lowL_len {l : List Nat} (h : ∀ c ∈ l, c < 256) : (lowL l).length = l.length := by
 induction l with
 | nil => rfl
 | cons a r ih =>
  unfold lowL at ih ⊢
  rw [List.flatMap_cons, List.length_append, ih fun c hc => h c (.tail _ hc), lower_len a (h a (.head _))]
  simp; exact (Om.q 1 0 .f28) _
theorem uppL_len {l : List Nat} (h : ∀ c ∈ l, c < 256) : (uppL l).length <= 2 * l.length := by
 induction l with
 | nil => simp [uppL]
 | cons a r ih =>
  unfold uppL at ih ⊢
  rw [List.flatMap_cons, List.length_append, List.length_cons]
  have := ih fun c hc => h c (.tail _ hc)
  have := upper_len a (h a (.head _))
  exact (Om.q 3 0 (.i (.l .x2 (.m 2 .x1)) (.i (.l .x0 (.k 2)) (.l (.a .x0 .x2) (.m 2 (.a .x1 .k1)))))) _ _ _ (by assumption) this
section
variable {G : Gx} {X : Fx} {σ : St} {W : Wd} {Ψ : Ps} {s : Shared} {Φ : V -> St -> Prop} {ΦB : Bool -> St -> Prop}
theorem gm_lower {b : List Nat} : GM G X (.str b) "lower" (.val (.builtin "str.lower")) [.str b] σ := by
 intro W va ra s R pl Q E k
 cases ra.inv with
 | str x t => exact PySem.GM.lower (k _ _ (.val _) (.cons (.str _ _) .nil))
theorem gm_upper {b : List Nat} : GM G X (.str b) "upper" (.val (.builtin "str.upper")) [.str b] σ := by
 intro W va ra s R pl Q E k
 cases ra.inv with
 | str x t => exact PySem.GM.upper (k _ _ (.val _) (.cons (.str _ _) .nil))
theorem lA {b : List Nat} (hb : ∀ c ∈ b, c < 256) (hz : b.length <= 1000000) (h : Φ (.str (lowL b)) σ) : aR G X (.val (.builtin "str.lower")) [.str b] Φ Ψ σ := by
 intro W vf vs rf rs s R
 cases rf.inv
 cases rs.inv with
 | cons r1 rs =>
  cases rs.inv
  cases r1.inv with
  | str x t =>
   refine SC.lower ?_ ⟨W, _, σ, .rfl, .str _ _, R.tok, ?_⟩
   ·unfold Builtin.Str.tooLong; rw [sizeLine_eq, aY, low_eq hb, lowL_len hb]; simp; simp at hz; exact Om.hi hz
   ·rw [low_eq hb]; exact h
theorem lz {b : List Nat} (hb : ∀ c ∈ b, c < 256) (hz : b.length <= 1000000) (h : Φ (.str (uppL b)) σ) : aR G X (.val (.builtin "str.upper")) [.str b] Φ Ψ σ := by
 intro W vf vs rf rs s R
 cases rf.inv
 cases rs.inv with
 | cons r1 rs =>
  cases rs.inv
  cases r1.inv with
  | str x t =>
   refine SC.upper ?_ ⟨W, _, σ, .rfl, .str _ _, R.tok, ?_⟩
   ·have := uppL_len hb
    unfold Builtin.Str.tooLong; rw [sizeLine_eq, aY, upp_eq]; simp only [gt_iff_lt, decide_eq_false_iff_not]; exact (Om.q 2 0 (.i (.l .x1 (.k 1000000)) (.i (.l .x0 (.m 2 .x1)) (.n (.t (.k 16777216) .x0))))) _ _ hz this
   ·rw [upp_eq]; exact h
noncomputable def figs (n : Nat) : List Nat := (Nat.toDigits 10 n).map Char.toNat
theorem eU (n : Nat) : (PySem.Str.ofString (toString ((n : Nat) : Int))).cps.toList = figs n := KIN.signs_num n
theorem jX {n : Int} (h0 : 0 <= n) (h1 : n < 10 ^ 9) (h : Φ (.str (figs n.toNat)) σ) : aR G X (.val (.type "str")) [.int n] Φ Ψ σ := by
 intro W vf vs rf rs s R
 cases rf.inv
 cases rs.inv with
 | cons r1 rs =>
  cases rs.inv
  cases r1.inv with
  | int t =>
   refine P.str_of_int ?_ ⟨W, _, σ, .rfl, .str _ _, R.tok, ?_⟩
   ·have : n.natAbs < 2 ^ 1919 := Nat.lt_of_lt_of_le (m := 2 ^ 30) (by exact (Om.q 1 1 (.i (.L .k0 .x0) (.i (.T .x0 (.k 1000000000)) (.i (.o (.a (.L .k0 .x0) (.E (.c .x0) .x0)) (.a (.T .x0 .k0) (.E (.c .x0) (.g .x0)))) (.t .x0 (.k 1073741824)))))) _ _ h0 h1 (Om.nab _)) (Nat.pow_le_pow_right (by decide) (by decide))
    by_cases hn : n.natAbs = 0
    ·rw [hn]; decide
    ·exact Nat.lt_trans ((Nat.log2_lt hn).mpr this) (by decide)
   ·obtain ⟨m, rfl⟩ := Int.eq_ofNat_of_zero_le h0
    have := eU m
    rw [show (toString ((m : Nat) : Int) : Str) = PySem.Str.ofString (toString ((m : Nat) : Int)) from rfl, this]
    exact h
theorem jY {b : List Nat} (hb : AllDigits b) (hne : b ≠ []) (hz : b.length <= 600) (h : Φ (.int (digitsVal b)) σ) : aR G X (.val (.type "int")) [.str b] Φ Ψ σ := by
 intro W vf vs rf rs s R
 cases rf.inv
 cases rs.inv with
 | cons r1 rs =>
  cases rs.inv
  cases r1.inv with
  | str x t =>
   exact KIN.call_text (intText_digits hb hne (by rw [aY]; exact Om.hi hz)) (by rw [aY]; exact Om.hi hz) ⟨W, _, σ, .rfl, .int _ _, R.tok, h⟩
end
section
variable {A : Around} {s : Shared}
theorem ll (a : Array UInt8) (t : Tok) (b : Array UInt8) (u : Tok) : SeqAt.EqAt A s (.bytes a t) (.bytes b u) (a.toList == b.toList) := fun prog w E Q h => by
 unfold eqBool
 refine wpAny_holding ?_
 refine wpAny_ite_split (fun hab => ?_) (fun _ => ?_)
 ·have e : a = b := by have := eq_of_beq hab; injection this
  subst e
  exact wpAny_bind (wpAny_rule (wpAny_pure (by simpa using h)))
 ·exact wpAny_bind (eq_bytes (wpAny_truthy_bool h))
end
section
variable {P : Params} {K : Frag} {W : Wd}
theorem strs_of : ∀ {vs : List Value} {bs : List (List Nat)}, RVs P K W vs (bs.map .str) -> StrsAre vs (bs.map fun l => ⟨l.toArray⟩) := by
 intro vs
 induction vs with
 | nil => intro bs h; cases bs with | nil => exact .nil | cons => cases h
 | cons v vs ih =>
  intro bs h
  cases bs with
  | nil => exact h.cons_none.elim
  | cons b bs =>
   cases h.hd.inv with
   | str x t =>
    have e : x = ⟨x.cps.toList.toArray⟩ := bc rfl
    rw [List.map_cons, <- e]
    exact .cons _ _ (ih h.tl)
theorem ints_of : ∀ {vs : List Value} {bs : List Int}, RVs P K W vs (bs.map .int) -> IntsAre vs bs := by
 intro vs
 induction vs with
 | nil => intro bs h; cases bs with | nil => exact .nil | cons => cases h
 | cons v vs ih =>
  intro bs h
  cases bs with
  | nil => exact h.cons_none.elim
  | cons b bs => cases h.hd.inv; exact .cons _ _ (ih h.tl)
end
theorem fi (k : List Nat) : ∀ (ys : List (List Nat)), (ys.map fun l => (⟨l.toArray⟩ : Str)).any (· == (⟨k.toArray⟩ : Str)) = ys.contains k
 | [] => rfl
 | y :: ys => by
  rw [List.map_cons, List.any_cons, fi k ys, List.contains_cons]
  congr 1
  rw [Bool.eq_iff_iff]
  simp
  exact eq_comm
theorem any_ints (k : Int) (ys : List Int) : ys.any (· == k) = ys.contains k := by
 induction ys with
 | nil => rfl
 | cons y ys ih =>
  rw [List.any_cons, ih, List.contains_cons]
  congr 1
  rw [Bool.eq_iff_iff]
  simp
  exact eq_comm
noncomputable def aX (sep : List Nat) : List (List Nat) -> List Nat
 | [] => []
 | [x] => x
 | x :: y :: r => x ++ sep ++ aX sep (y :: r)
theorem b6 {s a b : List Nat} : aX s [a, b] = a ++ s ++ b := rfl
theorem b5 {s a b c : List Nat} : aX s [a, b, c] = a ++ s ++ (b ++ s ++ c) := rfl
theorem gC {s a b c d e : List Nat} : aX s [a, b, c, d, e] = a ++ s ++ (b ++ s ++ (c ++ s ++ (d ++ s ++ e))) := rfl
theorem jx (sep : List Nat) : ∀ bs : List (List Nat), (PySem.Str.join ⟨sep.toArray⟩ (bs.map fun l => ⟨l.toArray⟩)).cps.toList = aX sep bs
 | [] => rfl
 | [x] => rfl
 | x :: y :: r => by
  have ih := jx sep (y :: r)
  show ((⟨x.toArray⟩ : Str) ++ ⟨sep.toArray⟩ ++ PySem.Str.join ⟨sep.toArray⟩ ((y :: r).map fun l => ⟨l.toArray⟩)).cps.toList = _
  rw [g7, g7, ih]; rfl
section
variable {G : Gx} {X : Fx} {σ : St} {W : Wd} {Ψ : Ps} {s : Shared} {Φ : V -> St -> Prop} {ΦB : Bool -> St -> Prop}
theorem aH {ds : List V} {v : Value} (o : X.Ok G) (R : RelS G X W σ s) (r : RV G.P G.K W v (.lst ds)) : ∃ a vs, v = .ref a /\ s.heap.IsList a vs.toArray /\ RVs G.P G.K W vs ds := by
 obtain ⟨a, vs, d, n, sl, rfl, ho, rs⟩ := fW o R r
 exact ⟨a, vs, rfl, ⟨_, ho, rfl, _, rfl⟩, rs⟩
theorem dn {b : List Nat} : GM G X (.str b) "join" (.val (.builtin "str.join")) [.str b] σ := by
 intro W va ra s R pl Q E k
 cases ra.inv with
 | str x t => exact PySem.GM.of (.str x t) (typeIs_str _ _ _) PySem.F.slot_str_join PySem.F.type_str_join PySem.GM.noRef (k _ _ (.val _) (.cons (.str _ _) .nil))
theorem io {sep : Str} {t : Tok} {a : Addr} {vs : List Value} {bs : List (List Nat)} (hl : s.heap.IsList a vs.toArray) (rs : RVs G.P G.K W vs (bs.map .str)) (R : RelS G X W σ s) (hs : sep.cps.toList.length <= 10) (hn : bs.length <= 100000) (hz : bs.flatten.length <= 1000000) (h : Φ (.str (aX sep.cps.toList bs)) σ) :
  wpAny G.M X.A (call (.builtin "str.join") [.str sep t, .ref a]) (PV G X W Φ) (EE G X Ψ) s := by
 refine PyProof.Rows.join_list hl (by simpa using strs_of rs) ?_ fun t' k => ⟨W, _, σ, .rfl, .str _ _, R.tok, ?_⟩
 ·have e : (List.map (fun x => x.length) (bs.map fun l => (⟨l.toArray⟩ : Str))).sum = bs.flatten.length := by
   rw [List.map_map, List.length_flatten]
   congr 1
  rw [e, List.length_map, aY]
  have : bs.length * sep.cps.toList.length <= 100000 * 10 := Nat.mul_le_mul hn hs
  exact (Om.q 3 0 (.i (.l .x2 (.k 1000000)) (.i (.e .x1 .x2) (.i (.l .x0 (.m 100000 (.k 10))) (.l (.a .x2 .x0) (.k 16777216)))))) _ _ _ hz e this
 ·show Φ (.str (Builtin.Str.glued sep _).cps.toList) σ
  rw [StrLaws.glued_eq_join]
  have := jx sep.cps.toList bs
  rw [Array.toArray_toList] at this
  rw [this]; exact h
theorem ky {sep : List Nat} {bs : List (List Nat)} (o : X.Ok G) (hs : sep.length <= 10) (hn : bs.length <= 100000) (hz : bs.flatten.length <= 1000000) (h : Φ (.str (aX sep bs)) σ) : aR G X (.val (.builtin "str.join")) [.str sep, .lst (bs.map .str)] Φ Ψ σ := by
 intro W vf vs rf rs s R
 cases rf.inv
 cases rs.inv with
 | cons r1 rs => cases rs.inv with
  | cons r2 rs =>
   cases rs.inv
   cases r1.inv with
   | str x t =>
    obtain ⟨a, vs, rfl, hl, rs⟩ := aH o R r2
    exact io hl rs R hs hn hz h
theorem jH {sep : List Nat} {bs : List (List Nat)} {i : Nat} (hi : σ.heap[i]? = some (some (.list (bs.map .str)))) (hs : sep.length <= 10) (hn : bs.length <= 100000) (hz : bs.flatten.length <= 1000000) (h : Φ (.str (aX sep bs)) σ) : aR G X (.val (.builtin "str.join")) [.str sep, .loc i] Φ Ψ σ := by
 intro W vf vs rf rs s R
 cases rf.inv
 cases rs.inv with
 | cons r1 rs => cases rs.inv with
  | cons r2 rs =>
   cases rs.inv
   cases r1.inv with
   | str x t =>
    obtain ⟨a, vs, n, rfl, rs, ho, -⟩ := bW R hi r2
    exact io ⟨_, ho, rfl, _, rfl⟩ rs R hs hn hz h
theorem in_lst_s {k : List Nat} {bs : List (List Nat)} (o : X.Ok G) (h : Φ (.bool (bs.contains k)) σ) : CMP G X .In (.str k) (.lst (bs.map .str)) Φ Ψ σ := by
 intro W x y rx ry s R
 cases rx.inv with
 | str x t =>
  obtain ⟨a, vs, rfl, hl, rs⟩ := aH o R ry
  refine in_list_strs hl (strs_of rs) ⟨W, _, σ, .rfl, .bool _, R, ?_⟩
  have := fi x.cps.toList bs
  rw [Array.toArray_toList] at this
  rw [this]; exact h
theorem in_tup_s {k : List Nat} {bs : List (List Nat)} (o : X.Ok G) (h : Φ (.bool (bs.contains k)) σ) : CMP G X .In (.str k) (.tup (bs.map .str)) Φ Ψ σ := by
 intro W x y rx ry s R
 cases rx.inv with
 | str x t =>
  obtain ⟨a, vs, rfl, ht, rs⟩ := bo o R ry
  refine in_tuple_strs ht (by simpa using strs_of rs) ⟨W, _, σ, .rfl, .bool _, R, ?_⟩
  have := fi x.cps.toList bs
  rw [Array.toArray_toList] at this
  rw [this]; exact h
theorem ki {k : List Nat} {bs : List (List Nat)} (o : X.Ok G) (h : Φ (.bool (!bs.contains k)) σ) : CMP G X .NotIn (.str k) (.tup (bs.map .str)) Φ Ψ σ := by
 intro W x y rx ry s R
 cases rx.inv with
 | str x t =>
  obtain ⟨a, vs, rfl, ht, rs⟩ := bo o R ry
  refine notin_tuple_strs ht (by simpa using strs_of rs) ⟨W, _, σ, .rfl, .bool _, R, ?_⟩
  have := fi x.cps.toList bs
  rw [Array.toArray_toList] at this
  rw [this]; exact h
theorem in_tup_i {k : Int} {bs : List Int} (o : X.Ok G) (h : Φ (.bool (bs.contains k)) σ) : CMP G X .In (.int k) (.tup (bs.map .int)) Φ Ψ σ := by
 intro W x y rx ry s R
 cases rx.inv with
 | int t =>
  obtain ⟨a, vs, rfl, ht, rs⟩ := bo o R ry
  refine in_tuple_ints ht (by simpa using ints_of rs) ⟨W, _, σ, .rfl, .bool _, R, ?_⟩
  rw [any_ints]; exact h
theorem kU {ds : List V} {v : Value} (o : X.Ok G) (R : RelS G X W σ s) (r : RV G.P G.K W v (.lst ds)) : ∀ a, v = .ref a -> ∃ o, s.heap.get? a = some o /\ o.dict = none := by
 cases r.inv with
 | lst hk hs => intro a e; cases e; exact ⟨_, R.known o hk, rfl⟩
theorem gm_index {ds : List V} (o : X.Ok G) : GM G X (.lst ds) "index" (.val (.builtin "list.index")) [.lst ds] σ := by
 intro W va ra s R pl Q E k
 obtain ⟨a, vs, rfl, hl, rs⟩ := aH o R ra
 exact getMethod_builtin hl.typeIs PySem.F.plainAttrs_list PySem.F.slot_list_index PySem.F.type_list_index (kU o R ra) (k _ _ (.val _) (.cons ra .nil))
theorem idx_strs : ∀ {vs : List Value} {bs : List (List Nat)}, StrsAre vs (bs.map fun l => ⟨l.toArray⟩) -> ∀ (k : List Nat) {i : Nat} {v : Value}, vs[i]? = some v -> isStrOf ⟨k.toArray⟩ v = decide (bs[i]? = some k) := by
 intro vs
 induction vs with
 | nil => intro bs _ k i v h; injection h
 | cons u vs ih =>
  intro bs h k i v hv
  cases bs with
  | nil => cases h
  | cons b bs =>
   cases h with
   | cons y t h =>
    cases i with
    | zero =>
     obtain rfl := Option.some.inj hv
     show ((⟨b.toArray⟩ : Str) == ⟨k.toArray⟩) = _
     rw [Bool.eq_iff_iff]; simp
    | succ i => exact ih h k hv
theorem jZ {k : List Nat} {bs : List (List Nat)} {j : Nat} (o : X.Ok G) (hz : bs.length <= 100000) (hj : bs[j]? = some k) (hno : ∀ i, i < j -> bs[i]? ≠ some k) (h : Φ (.int j) σ) : aR G X (.val (.builtin "list.index")) [.lst (bs.map .str), .str k] Φ Ψ σ := by
 intro W vf vs rf rs s R
 cases rf.inv
 cases rs.inv with
 | cons r1 rs => cases rs.inv with
  | cons r2 rs =>
   cases rs.inv
   cases r2.inv with
   | str x t =>
    obtain ⟨a, vs, d, n, sl, rfl, ho, rs⟩ := fW o R r1
    have hi := strs_of rs
    have hlen : vs.length = bs.length := by have := rs.length; simpa using this
    have hjl := (List.getElem?_eq_some_iff.mp hj).1
    have ex : x = ⟨x.cps.toList.toArray⟩ := bc rfl
    refine call_meets PySem.F.slot_list_index ⟨_, ho, rfl⟩ PySem.F.entry_list_index (PySem.F.args_list_index_2 _ _)
     (SeqAt.list_indexAt a vs.toArray n d sl (.str x t) (isStrOf x) j (by simp; exact (Om.q 3 0 (.i (.e .x2 .x1) (.i (.t .x0 .x1) (.t .x0 .x2)))) _ _ _ hlen hjl) ((Om.q 3 0 (.i (.l .x2 (.k 100000)) (.i (.e .x1 .x2) (.i (.t .x0 .x2) (.T (.c .x0) (.s (.k 9223372036854775808) .k1)))))) _ _ _ hz hlen hjl) ?_ ?_) ⟨ho, fun y hy => (eq_isStrOf x t hi y (by simpa using hy)).at _ _, ⟨W, _, σ, .rfl, .int _ _, R.tok, h⟩⟩
    ·have := idx_strs hi x.cps.toList (i := j) (v := vs[j]'(by omega)) (by rw [List.getElem?_eq_getElem])
     rw [<- ex, hj] at this
     simpa using this
    ·intro m hm hmj
     have hm' : m < vs.length := by simpa using hm
     have := idx_strs hi x.cps.toList (i := m) (v := vs[m]'hm') (by rw [List.getElem?_eq_getElem])
     rw [<- ex] at this
     simp only [List.getElem_toArray]
     rw [this]
     exact decide_eq_false (hno m hmj)
end
noncomputable def feq : V -> V -> Bool
 | .int a, .int b => a == b
 | .str a, .str b => a == b
 | .bytes a, .bytes b => a == b
 | _, _ => false
noncomputable def fkd : V -> V -> Bool
 | .int _, .int _ => true
 | .str _, .str _ => true
 | .bytes _, .bytes _ => true
 | _, _ => false
noncomputable def feqs : List V -> List V -> Bool
 | [], [] => true
 | a :: r, b :: t => feq a b && feqs r t
 | _, _ => false
noncomputable def fkds : List V -> List V -> Bool
 | [], [] => true
 | a :: r, b :: t => fkd a b && fkds r t
 | _, _ => false
theorem fkds_len : ∀ {a b : List V}, fkds a b = true -> a.length = b.length
 | [], [], _ => rfl
 | [], _ :: _, h => by injection h
 | _ :: _, [], h => by injection h
 | a :: r, b :: t, h => by
  exact congrArg Nat.succ (fkds_len (Bool.and_eq_true_iff.mp h).2)
theorem feqs_all : ∀ {a b : List V}, fkds a b = true -> feqs a b = (List.range a.length).all fun j => match a[j]?, b[j]? with | some x, some y => feq x y | _, _ => false
 | [], [], _ => rfl
 | [], _ :: _, h => by injection h
 | _ :: _, [], h => by injection h
 | a :: r, b :: t, h => by
  show (feq a b && feqs r t) = _
  rw [feqs_all (Bool.and_eq_true_iff.mp h).2, List.length_cons, List.range_succ_eq_map, List.all_cons, List.all_map]
  rfl
theorem fkds_get : ∀ {a b : List V}, fkds a b = true -> ∀ {j : Nat} {x y : V}, a[j]? = some x -> b[j]? = some y -> fkd x y = true
 | [], [], _, j, x, y, h1, _ => by injection h1
 | [], _ :: _, h, _, _, _, _, _ => by injection h
 | _ :: _, [], h, _, _, _, _, _ => by injection h
 | a :: r, b :: t, h, 0, x, y, h1, h2 => by
  obtain rfl := Option.some.inj h1; obtain rfl := Option.some.inj h2; exact (Bool.and_eq_true_iff.mp h).1
 | a :: r, b :: t, h, j + 1, x, y, h1, h2 => by
  exact fkds_get (Bool.and_eq_true_iff.mp h).2 (j := j) h1 h2
section
variable {P : Params} {K : Frag} {W : Wd} {A : Around} {s : Shared}
theorem eqAt_flat {x y : Value} {a b : V} (rx : RV P K W x a) (ry : RV P K W y b) (h : fkd a b = true) : SeqAt.EqAt A s x y (feq a b) := by
 have no : ∀ {p : Prop}, false = true -> p := Bool.noConfusion
 cases a with
 | int i => cases b with
  | int j => cases rx.inv; cases ry.inv; exact SeqAt.EqAt.int_int _ _ _ _
  | _ => exact no h
 | str u => cases b with
  | str v => cases rx.inv with
   | str x t => cases ry.inv with
    | str y u => rw [show (feq (.str x.cps.toList) (.str y.cps.toList)) = (x == y) from SeqAt.str_beq x y]; exact SeqAt.EqAt.str_str _ _ _ _
  | _ => exact no h
 | bytes u => cases b with
  | bytes v => cases rx.inv; cases ry.inv; exact ll _ _ _ _
  | _ => exact no h
 | _ => exact no h
theorem gO {vs us : List Value} {a b : List V} (ra : RVs P K W vs a) (rb : RVs P K W us b) (h : fkds a b = true) : ∀ j (h1 : j < vs.toArray.size) (h2 : j < us.toArray.size), SeqAt.EqAt A s vs.toArray[j] us.toArray[j] (match a[j]?, b[j]? with | some x, some y => feq x y | _, _ => false) := by
 intro j h1 h2
 have h1' : j < vs.length := by simpa using h1
 have h2' : j < us.length := by simpa using h2
 obtain ⟨x, hx, rx⟩ := ra.get' (i := j) (v := vs[j]) (by rw [List.getElem?_eq_getElem])
 obtain ⟨y, hy, ry⟩ := rb.get' (i := j) (v := us[j]) (by rw [List.getElem?_eq_getElem])
 rw [hx, hy]
 exact eqAt_flat rx ry (fkds_get h hx hy)
end
section
variable {G : Gx} {X : Fx} {σ : St} {W : Wd} {Ψ : Ps} {s : Shared} {Φ : V -> St -> Prop} {ΦB : Bool -> St -> Prop}
theorem Rel.newZ {h h' : Heap} {a : Addr} {o : Obj} (r : Rel G X W σ h) (k : ∀ b o, h.get? b = some o -> h'.get? b = some o) (ha : h.get? a = none) (ha' : h'.get? a = some o) : Rel G X ⟨(a, o) :: W.Z, W.α⟩ σ h' := by
 obtain ⟨m, M, R⟩ := r
 have l : W.le ⟨(a, o) :: W.Z, W.α⟩ := ⟨fun p hp => .tail _ hp, fun _ _ e => e⟩
 have pm : (X.pins ++ (M ++ (a, o) :: W.Z)).Perm ((a, o) :: (X.pins ++ (M ++ W.Z))) := by
  rw [<- List.append_assoc, <- List.append_assoc]
  exact List.perm_middle
 refine ⟨m, M, R.fr.keeps k, fun p hp => ?_, (pm.map _).nodup_iff.mpr (List.nodup_cons.mpr ⟨fun q => ?_, R.nod⟩), R.lc.mono l, R.re.mono l, R.st, R.cp⟩
 ·rcases List.mem_cons.mp (pm.mem_iff.mp hp) with rfl | hp
  ·refine ⟨ha', fun z => ?_, ?_⟩
   ·obtain ⟨oL, es, ep, hL, _⟩ := R.fr.ns
    have : a = X.L := z
    rw [this, hL] at ha; injection ha
   ·cases e : X.h₀.get? a with
    | none => rfl
    | some o' => rw [R.fr.keep _ _ e] at ha; injection ha
  ·exact (R.nw.grown k) p hp
 ·obtain ⟨p, hp, e⟩ := List.mem_map.mp q
  have := (R.nw p hp).1
  rw [e, ha] at this; injection this
theorem RelS.newZ {h' : Heap} {a : Addr} {o : Obj} {tk : Nat} (r : RelS G X W σ s) (k : ∀ b o, s.heap.get? b = some o -> h'.get? b = some o) (ha : s.heap.get? a = none) (ha' : h'.get? a = some o) : RelS G X ⟨(a, o) :: W.Z, W.α⟩ σ { s with heap := h', toks := tk } :=
 ⟨r.rel.newZ k ha ha', ⟨r.sh.gens, r.sh.drawn, r.sh.os⟩⟩
theorem leZ {p : Addr × Obj} : W.le ⟨p :: W.Z, W.α⟩ := ⟨fun _ hp => .tail _ hp, fun _ _ e => e⟩
theorem dp {h : Heap} : h.get? h.objs.size = none := Heap.get?_none_of_le (Nat.le_refl _)
theorem ge {h : Heap} : h.get? (h.objs.size + 1) = none := Heap.get?_none_of_le (Nat.le_succ _)
theorem ex_lst {es : List Expr} {pos : Pos} (h : ∀ q, AX G X q es (fun ds σ1 => ds.length <= 1000 /\ Φ (.lst ds) σ1) Ψ σ) : EX G X (.List es pos) Φ Ψ σ := by
 intro W s R
 refine List_ (wpAny_mono (h pos W s R) (fun vs s_1 yy => ?_) fun _ _ y => y)
 obtain ⟨W1, ds, σ1, l_1, rs, R_1, hl, h_1⟩ := yy
 obtain ⟨r1, l2⟩ := R_1.rel.allocZ (aA "list" .none vs 0 #[]) rfl
 refine wpAny_newObj_type ⟨_, .lst ds, σ1, l_1.trans l2, .lst (.inr (.head _)) (rs.mono l2), ⟨r1, ⟨R_1.sh.gens, R_1.sh.drawn, R_1.sh.os⟩⟩, h_1⟩ ?_
 show vs.toArray.size <= sizeLine
 rw [List.size_toArray, rs.length, sizeLine_eq]; exact Om.hi hl
theorem eq_tup {a b : List V} (o : X.Ok G) (hk : fkds a b = true) (h : Φ (.bool (feqs a b)) σ) : CMP G X .Eq (.tup a) (.tup b) Φ Ψ σ := by
 intro W x y rx ry s R
 obtain ⟨p, vs, rfl, ht, ra⟩ := bo o R rx
 obtain ⟨q, us, rfl, ht', rb⟩ := bo o R ry
 have hl := fkds_len hk
 refine SeqAt.eq_tupleAt (e := fun j => match a[j]?, b[j]? with | some x, some y => feq x y | _, _ => false) ht ht' o.units' (fun j h1 h2 => gO ra rb hk j h1 h2) ⟨W, _, σ, .rfl, .bool _, R, ?_⟩
 have e : min vs.toArray.size us.toArray.size = a.length := by
  rw [List.size_toArray, List.size_toArray, ra.length, rb.length, hl, Nat.min_self]
 have e2 : (vs.toArray.size == us.toArray.size) = true := by
  rw [List.size_toArray, List.size_toArray, ra.length, rb.length, hl]; simp
 rw [e, e2, Bool.and_true, <- feqs_all hk]; exact h
theorem ne_tup {a b : List V} (o : X.Ok G) (hk : fkds a b = true) (h : Φ (.bool (!feqs a b)) σ) : CMP G X .NotEq (.tup a) (.tup b) Φ Ψ σ := by
 intro W x y rx ry s R
 obtain ⟨p, vs, rfl, ht, ra⟩ := bo o R rx
 obtain ⟨q, us, rfl, ht', rb⟩ := bo o R ry
 have hl := fkds_len hk
 refine SeqAt.RcNeAt.tuples (e := fun j => match a[j]?, b[j]? with | some x, some y => feq x y | _, _ => false) ht ht' o.units' (fun j h1 h2 => gO ra rb hk j h1 h2) _ _ _ _ ⟨W, _, σ, .rfl, .bool _, R, ?_⟩
 have e : min vs.toArray.size us.toArray.size = a.length := by
  rw [List.size_toArray, List.size_toArray, ra.length, rb.length, hl, Nat.min_self]
 have e2 : (vs.toArray.size == us.toArray.size) = true := by
  rw [List.size_toArray, List.size_toArray, ra.length, rb.length, hl]; simp
 rw [e, e2, Bool.and_true, <- feqs_all hk]; exact h
theorem lk {a : List V} (o : X.Ok G) (h : Φ (.bool a.isEmpty) σ) : CMP G X .Eq (.lst a) (.lst []) Φ Ψ σ := by
 intro W x y rx ry s R
 obtain ⟨p, vs, rfl, hl, ra⟩ := aH o R rx
 obtain ⟨q, us, rfl, hl', rb⟩ := aH o R ry
 cases rb
 cases ra with
 | nil =>
  refine SeqAt.eq_listAt (e := fun _ => true) hl hl' rfl o.units' (fun j h1 => by simp at h1) ⟨W, _, σ, .rfl, .bool _, R, h⟩
 | cons r rs => exact SeqAt.eq_list_lengthsAt hl hl' (by simp) o.units' ⟨W, _, σ, .rfl, .bool _, R, h⟩
theorem kT {a : List V} (o : X.Ok G) (h : Φ (.bool (!a.isEmpty)) σ) : CMP G X .NotEq (.lst a) (.lst []) Φ Ψ σ := by
 intro W x y rx ry s R
 obtain ⟨p, vs, rfl, hl, ra⟩ := aH o R rx
 obtain ⟨q, us, rfl, hl', rb⟩ := aH o R ry
 cases rb
 cases ra with
 | nil =>
  refine SeqAt.RcNeAt.lists (e := fun _ => true) hl hl' rfl o.units' (fun j h1 => by simp at h1) _ _ _ _ ⟨W, _, σ, .rfl, .bool _, R, h⟩
 | cons r rs => exact SeqAt.RcNeAt.lists_lengths hl hl' (by simp) o.units' _ _ _ _ ⟨W, _, σ, .rfl, .bool _, R, h⟩
theorem jK {p q : Addr} {vs us : List Value} {a b : List V} (hl : s.heap.IsList p vs.toArray) (hl' : s.heap.IsList q us.toArray) (ra : RVs G.P G.K W vs a) (rb : RVs G.P G.K W us b) (R : RelS G X W σ s) (hz : a.length + b.length <= 1000000) (h : Φ (.lst (a ++ b)) σ) :
  wpAny G.M X.A (binaryOp .Add (.ref p) (.ref q)) (PV G X W Φ) (EE G X Ψ) s := by
 obtain ⟨⟨cls, dd, data, sl⟩, ho, hc, n, hd⟩ := id hl
 obtain ⟨⟨cls2, dd2, data2, sl2⟩, ho2, hc2, n2, hd2⟩ := id hl'
 simp only at hc hd hc2 hd2
 subst hc hd hc2 hd2
 have e : vs.toArray ++ us.toArray = (vs ++ us).toArray := by simp
 have h1 := ra.length
 have h2 := rb.length
 refine concat_meets ⟨_, ho, rfl⟩ ⟨_, ho2, rfl⟩ noFill_list_add seq_list_add PySem.F.slot_list_add PySem.F.entry_list_add (PySem.F.args_list_add_2 _ _) (list_addW p q vs.toArray us.toArray n n2 dd dd2 sl sl2 (by rw [sizeLine_eq]; simp; exact (Om.q 4 0 (.i (.l (.a .x3 .x2) (.k 1000000)) (.i (.e .x1 .x3) (.i (.e .x0 .x2) (.l (.a .x1 .x0) (.k 16777216)))))) _ _ _ _ hz h1 h2)) ⟨ho, ho2, ?_⟩
 rw [e]
 exact ⟨_, _, σ, leZ, .lst (.inr (.head _)) ((ra.mono leZ).append (rb.mono leZ)), R.newZ (tk := s.toks) (o := aA "list" .none (vs ++ us) 0 #[]) (fun b o e => Heap.get?_push_of_some _ e) dp (Heap.get?_push_size _ rfl), h⟩
theorem add_lst {a b : List V} (o : X.Ok G) (hz : a.length + b.length <= 1000000) (h : Φ (.lst (a ++ b)) σ) : BIN G X .Add (.lst a) (.lst b) Φ Ψ σ := by
 intro W x y rx ry s R
 obtain ⟨p, vs, rfl, hl, ra⟩ := aH o R rx
 obtain ⟨q, us, rfl, hl', rb⟩ := aH o R ry
 exact jK hl hl' ra rb R hz h
theorem add_loc {a b : List V} {i : Nat} (o : X.Ok G) (hi : σ.heap[i]? = some (some (.list a))) (hz : a.length + b.length <= 1000000) (h : Φ (.lst (a ++ b)) σ) : BIN G X .Add (.loc i) (.lst b) Φ Ψ σ := by
 intro W x y rx ry s R
 obtain ⟨p, vs, n, rfl, ra, ho, -⟩ := bW R hi rx
 obtain ⟨q, us, rfl, hl', rb⟩ := aH o R ry
 exact jK ⟨_, ho, rfl, _, rfl⟩ hl' ra rb R hz h
theorem fX {p : Addr} {vs : List Value} {a r : List V} {lo hi : Option Int} {l u : Value} {value slice : Expr} (hl' : s.heap.IsList p vs.toArray) (ra : RVs G.P G.K W vs a) (hl : IsPart l lo) (hu : IsPart u hi) (hz : a.length <= 1000000) (hr : ∃ vs', slicePick vs.toArray lo hi none = List.toArray vs' /\ RVs G.P G.K W vs' r) (R : RelS G X W σ s)
  (hs : subscripted slice false (.ref p) (.ref s.heap.objs.size) = operate [.ref s.heap.objs.size, .ref p] (getItem (.ref p) (.ref s.heap.objs.size))) (h : Φ (.lst r) σ) :
  wpAny G.M X.A (subscriptTail value slice (.ref p) (.ref s.heap.objs.size)) (PV G X W Φ) (EE G X Ψ) { s with heap := s.heap.push { cls := .type "slice", data := .fields #[l, u, .none] } } := by
 have hp : (s.heap.push { cls := .type "slice", data := .fields #[l, u, .none] }).IsList p vs.toArray := hl'.push _
 refine eV (T := "list") hp.typeIs slot_list_getitem.lookup ⟨_, hs⟩ (wpAny_getItem_list_slice hp (Heap.IsSliceOf.new ..) hl hu .none (by simp) ?_ (by rw [List.size_toArray, ra.length, sizeLine_eq]; exact Om.hi hz))
 obtain ⟨vs', e, rr⟩ := hr
 rw [e]
 refine ⟨_, _, σ, leZ, .lst (n := 0) (sl := #[]) (.inr (.head _)) (rr.mono leZ), R.newZ (tk := s.toks) (o := aA "list" .none vs' 0 #[]) (fun b o e => Heap.get?_push_of_some _ (Heap.get?_push_of_some _ e)) ?_ (Heap.get?_push_size _ rfl), h⟩
 show s.heap.get? (s.heap.push _).objs.size = none
 rw [Heap.size_push]; exact ge
theorem slc_lst0 {a : List V} {j : Int} (o : X.Ok G) (hz : a.length <= 1000000) (h0 : 0 <= j) (h : Φ (.lst (a.take j.toNat)) σ) : SLC G X (.lst a) none (some j) Φ Ψ σ := by
 intro W value slice vo l u ro hl hu s R hs
 obtain ⟨p, vs, rfl, hl', ra⟩ := aH o R ro
 refine fX hl' ra hl hu hz ⟨vs.take j.toNat, ?_, ra.take _⟩ R hs h
 have := slicePick_upto' vs.toArray j.toNat
 rw [show ((j.toNat : Nat) : Int) = j by exact (Om.q 1 1 (.i (.L .k0 .x0) (.i (.o (.a (.L .k0 .x0) (.E (.c .x0) .x0)) (.a (.T .x0 .k0) (.e .x0 .k0))) (.E (.c .x0) .x0)))) _ _ h0 (Om.tno _)] at this
 simpa using this
theorem jM {a : List V} {i : Nat} (o : X.Ok G) (hi : σ.heap[i]? = some (some (.list a))) (hz : a.length <= 1000000) (h : Φ (.lst a.dropLast) σ) : SLC G X (.loc i) none (some (-1)) Φ Ψ σ := by
 intro W value slice vo l u ro hl hu s R hs
 obtain ⟨p, vs, n, rfl, ra, ho, -⟩ := bW R hi ro
 refine fX ⟨_, ho, rfl, _, rfl⟩ ra hl hu hz ⟨vs.take (vs.length - 1), ?_, ?_⟩ R hs h
 ·have := slicePick_butLast vs.toArray 1 (by decide)
  simpa using this
 ·have := ra.take (vs.length - 1)
  rw [ra.length] at this ⊢
  rw [List.dropLast_eq_take]; exact this
set_option tactic.hygienic true in
theorem iY {prog : Program} {w : World} {A : Around} {E : Value -> Shared -> Prop} {sl : Addr} {u : Value} {Q : Int × Int × Nat -> Shared -> Prop} (hu : IsPart u (some 2)) (hs : s.heap.IsSliceOf sl .none u .none) (h : Q (0, 1, 2) s) :
  wpAny (model prog w) A (Builtin.Slice.sliceApplied (.ref sl) (pure (3 : Int))) Q E s := by
 obtain ⟨os, hos, hcs, hds⟩ := id hs
 cases hu
 rename_i t
 unfold Builtin.Slice.sliceApplied Builtin.Slice.sliceFields
 refine wpAny_bind (wpAny_bind (wpAny_field hos hds (x := .none) rfl (wpAny_bind (wpAny_field hos hds (x := .int 2 t) rfl (wpAny_bind (wpAny_field hos hds (x := .none) rfl (wpAny_pure ?_)))))))
 refine wpAny_bind (slicePart_none ?_)
 show wpAny _ _ (if ((1 : Int) == 0) = true then _ else _) _ _ s
 rw [if_neg (by decide)]
 refine wpAny_bind (slicePart_none (wpAny_bind (slicePart_int (wpAny_bind (wpAny_pure ?_)))))
 exact wpAny_pure h
theorem slc_tup2 {a b c : V} (o : X.Ok G) (h : Φ (.tup [a, b]) σ) : SLC G X (.tup [a, b, c]) none (some 2) Φ Ψ σ := by
 intro W value slice vo l u ro hl hu s R hs
 obtain ⟨p, vs, rfl, ht, ra⟩ := bo o R ro
 cases ra with
 | @cons v1 _ _ _ r1 ra => cases ra with
  | @cons v2 _ _ _ r2 ra => cases ra with
   | @cons v3 _ _ _ r3 ra =>
    cases ra
    cases hl
    have ht' : IsTup (s.heap.push { cls := .type "slice", data := .fields #[.none, u, .none] }) p [v1, v2, v3].toArray := ht.keeps fun _ _ e => Heap.get?_push_of_some _ e
    refine eV (T := "tuple") ht'.typeIs slot_tuple_getitem.lookup ⟨_, hs⟩ ?_
    have hsl : (s.heap.push { cls := .type "slice", data := .fields #[.none, u, .none] }).IsSliceOf s.heap.objs.size .none u .none := Heap.IsSliceOf.new ..
    obtain ⟨os, hos, hcs, hds⟩ := id hsl
    have hTs : ({ s with heap := s.heap.push { cls := .type "slice", data := .fields #[.none, u, .none] } } : Shared).TypeIs (.ref s.heap.objs.size) "slice" := ⟨os, hos, hcs⟩
    unfold getItem
    try with_reducible refine wpAny_holding ?_
    first | refine wpAny_bind (wpAny_pure ?_) | skip
    refine wpAny_bind (wpAny_sequenceKey ht'.typeIs (by decide) ?_)
    refine wpAny_bind (wpAny_callSpecial?_slot (name := Str.ofString "__getitem__") ht'.typeIs slot_tuple_getitem
     (wpAny_call_entry slot_tuple_getitem ht'.typeIs entry_tuple_getitem ?_ (args_tuple_getitem _ _)))
    show wpAny _ _ (Builtin.Tuple.tupleItemsOf (.ref p) >>= _) _ _ _
    refine wpAny_bind (tupleItemsOf_ ht' ?_)
    refine wpAny_bind (wpAny_typeOf hTs ?_)
    rw [if_pos (by decide)]
    refine wpAny_bind (iY hu hsl ?_)
    show wpAny _ _ (if ((0 : Int) == 0 && (1 : Int) == 1 && (2 : Nat) == 3) = true then _ else _) _ _ _
    rw [if_neg (by decide)]
    have fin : PV G X W Φ (.ref (s.heap.objs.size + 1)) { s with heap := (s.heap.push { cls := .type "slice", data := .fields #[.none, u, .none] }).push (aA "tuple" .none [v1, v2] 0 #[]) } := by
     refine ⟨_, _, σ, leZ, .tup (n := 0) (sl := #[]) (.inr (.head _)) (.cons (r1.mono leZ) (.cons (r2.mono leZ) .nil)), R.newZ (tk := s.toks) (fun b o e => Heap.get?_push_of_some _ (Heap.get?_push_of_some _ e)) ge ?_, h⟩
     have := Heap.get?_push_size (s.heap.push { cls := .type "slice", data := .fields #[.none, u, .none] }) (o := aA "tuple" .none [v1, v2] 0 #[]) rfl
     rwa [Heap.size_push] at this
    have fin' : PV G X W Φ (.ref (s.heap.push { cls := .type "slice", data := .fields #[.none, u, .none] }).objs.size) { s with heap := (s.heap.push { cls := .type "slice", data := .fields #[.none, u, .none] }).push (aA "tuple" .none [v1, v2] 0 #[]) } := by
     rw [Heap.size_push]; exact fin
    have hsz : sizeOk (.seq (List.toArray [v1, v2])) := by show (2 : Nat) <= sizeLine; rw [sizeLine_eq]; decide
    first
     | exact wpAny_bind (m := Builtin.Tuple.tupleExact _) (wpAny_newObj_type (wpAny_pure ⟨_, rfl, wpAny_pure fin'⟩) hsz)
     | exact wpAny_bind (m := Builtin.Tuple.tupleExact _) (wpAny_newObj_type (wpAny_bind (wpAny_pure (wpAny_pure ⟨_, rfl, wpAny_pure fin'⟩))) hsz)
     | exact wpAny_bind (wpAny_bind (m := Builtin.Tuple.tupleExact _) (wpAny_newObj_type (wpAny_pure (wpAny_pure ⟨_, rfl, wpAny_pure fin'⟩)) hsz))
     | exact wpAny_bind (wpAny_bind (m := Builtin.Tuple.tupleExact _) (wpAny_newObj_type (wpAny_pure ⟨_, rfl, wpAny_pure fin'⟩) hsz))
end
section
open PyProof.V
noncomputable abbrev kvV (l : List (List Nat × Int)) : List (List Nat × V) := l.map fun p => (p.1, .int p.2)
noncomputable abbrev kvD (l : List (List Nat × Int)) : List (PyData × PyData) := l.map fun p => (.str ⟨p.1.toArray⟩, .int p.2)
noncomputable def bG (k : List Nat) : List (List Nat × Int) -> Option Int
 | [] => none
 | p :: r => if p.1 = k then some p.2 else bG k r
theorem eN (k : List Nat) : ∀ l, lookup (.str ⟨k.toArray⟩) (kvD l) = (bG k l).map .int
 | [] => rfl
 | p :: r => by
  show (if PySem.Spec.same (.str ⟨p.1.toArray⟩) (.str ⟨k.toArray⟩) = true then some (PyData.int p.2) else lookup (.str ⟨k.toArray⟩) (kvD r)) = _
  rw [same_str, eN k r]
  have e : bG k (p :: r) = if p.1 = k then some p.2 else bG k r := rfl
  rw [e]
  by_cases h : p.1 = k <;> simp [h]
theorem jA {v : Value} {i : Int} (h : Flat v (.int i)) : ∃ t, v = .int i t := Flat.int_inv h
section
variable {G : Gx} {X : Fx} {σ : St} {W : Wd} {Ψ : Ps} {s : Shared} {Φ : V -> St -> Prop} {ΦB : Bool -> St -> Prop}
theorem rks_pairs {es : List DictEntry} : ∀ {l : List (List Nat × Int)}, RKs G.P G.K W es (kvV l) -> ∃ kvs : List (Str × Value), Pairs (PySem.strKind G.prog G.w) es kvs /\ FlatPairs PyData.str kvs (kvD l) /\ (∀ e ∈ es, ∃ k, (PySem.strKind G.prog G.w).is k e.key = true /\ e.hash = (PySem.strKind G.prog G.w).hash k) /\ kvs.map (·.1) = l.map fun p => (⟨p.1.toArray⟩ : Str) := by
 induction es with
 | nil =>
  intro l h
  cases l with
  | nil => exact ⟨[], .nil, .nil, (fun e he => by cases he), rfl⟩
  | cons => cases h
 | cons e es ih =>
  intro l h
  cases l with
  | nil => cases h
  | cons p l =>
   obtain ⟨pk, pi⟩ := p
   generalize hpp : kvV ((pk, pi) :: l) = kk at h
   cases h with
   | @cons x t v d es kvs hv hs =>
    have hpp : (pk, V.int pi) :: kvV l = (x.cps.toList, d) :: kvs := hpp
    injection hpp with h1 h2
    injection h1 with h3 h4
    subst h2 h3 h4
    cases hv with
    | int _ tv =>
    obtain ⟨kvs, h1, h2, h3, h4⟩ := ih hs
    have ex : (⟨x.cps.toList.toArray⟩ : Str) = x := (bc rfl).symm
    refine ⟨(x, .int pi tv) :: kvs, .cons (strKind_is G.prog G.w x t) rfl h1, ?_, ?_, ?_⟩
    ·have := FlatPairs.cons (enc := PyData.str) (k := x) (Flat.int pi tv) h2
     show FlatPairs PyData.str _ ((.str ⟨x.cps.toList.toArray⟩, .int pi) :: kvD l)
     rw [ex]; exact this
    ·intro e he
     rcases List.mem_cons.mp he with rfl | he
     ·exact ⟨x, strKind_is G.prog G.w x t, rfl⟩
     ·exact h3 e he
    ·rw [List.map_cons, List.map_cons, h4, ex]
theorem dict_at {l : List (List Nat × Int)} {va : Value} (o : X.Ok G) (R : RelS G X W σ s) (ra : RV G.P G.K W va (.dict (kvV l))) :
  ∃ a kvs ep, va = .ref a /\ (a == sysModules) = false /\ s.heap.DictAt (PySem.strKind G.prog G.w) a kvs ep /\ FlatPairs PyData.str kvs (kvD l) := by
 generalize hk : kvV l = kk at ra
 cases ra.inv with
 | @dict a es n h hs hn lo =>
  subst hk
  obtain ⟨kvs, h1, h2, h3, h4⟩ := rks_pairs hs
  refine ⟨a, kvs, n, rfl, lo, ⟨_, es.toArray, R.known o h, ⟨rfl, rfl, rfl⟩, rfl, ?_, by simpa using h1, ?_⟩, h2⟩
  ·intro e he
   exact h3 e (by simpa using he)
  ·rw [h4]
   have : (kvV l).map (·.1) = l.map (·.1) := by rw [List.map_map]; rfl
   rw [this] at hn
   have e : (l.map fun p => (⟨p.1.toArray⟩ : Str)) = (l.map (·.1)).map fun a => (⟨a.toArray⟩ : Str) := by rw [List.map_map]; rfl
   rw [e]
   refine List.Pairwise.map _ (fun a b hab q => hab ?_) hn
   have := congrArg (fun x : Str => x.cps.toList) q
   simpa using this
theorem gG {l : List (List Nat × Int)} {va : Value} (o : X.Ok G) (R : RelS G X W σ s) (ra : RV G.P G.K W va (.dict (kvV l))) : ∃ a, va = .ref a /\ StrTab G.prog G.w s.heap a (kvD l) := by
 obtain ⟨a, kvs, ep, rfl, lo, ⟨o, es, h1, h2, h3, h4, h5, h6⟩, hf⟩ := dict_at o R ra
 exact ⟨a, rfl, lo, kvs, ⟨o, es, ep, h1, h2, h3, h4, h5, h6⟩, hf⟩
theorem get_dict {l : List (List Nat × Int)} {k : List Nat} {i : Int} (o : X.Ok G) (hk : bG k l = some i) (h : Φ (.int i) σ) : GET G X (.dict (kvV l)) (.str k) Φ Ψ σ := by
 intro W value slice vo vi ro ri hs s R
 obtain ⟨a, rfl, T⟩ := gG o R ro
 cases ri.inv with
 | str x t =>
  have ex : (⟨x.cps.toList.toArray⟩ : Str) = x := (bc rfl).symm
  have hl := eN x.cps.toList l
  rw [ex, hk] at hl
  have T' := T
  obtain ⟨lo, kvs, hd, hf⟩ := T'
  refine eV (T := "dict") hd.typeIs slot_dict_getitem.lookup hs ?_
  obtain ⟨v, hv, hfl⟩ := hf.of_lookup same_str hl
  refine wpAny_getItem_of (strKind_is G.prog G.w x t) hd.mapOf hv ?_
  obtain ⟨t', rfl⟩ := jA hfl
  exact ⟨W, _, σ, .rfl, .int _ _, R.tok, h⟩
theorem gm_get {l : List (List Nat × Int)} (o : X.Ok G) : GM G X (.dict (kvV l)) "get" (.val (.builtin "dict.get")) [.dict (kvV l)] σ := by
 intro W va ra s R pl Q E k
 obtain ⟨a, rfl, T⟩ := gG o R ra
 obtain ⟨lo, kvs, hd, hf⟩ := T
 exact getMethod_builtin hd.typeIs PySem.F.plainAttrs_dict PySem.F.slot_dict_get PySem.F.type_dict_get hd.mapOf.noDict (k _ _ (.val _) (.cons ra .nil))
theorem call_dget {l : List (List Nat × Int)} {k : List Nat} {i : Int} (o : X.Ok G) (h : Φ (.int ((bG k l).getD i)) σ) : aR G X (.val (.builtin "dict.get")) [.dict (kvV l), .str k, .int i] Φ Ψ σ := by
 intro W vf vs rf rs s R
 cases rf.inv
 cases rs.inv with
 | cons r1 rs => cases rs.inv with
  | cons r2 rs => cases rs.inv with
   | cons r3 rs =>
    cases rs.inv
    cases r2.inv with
    | str x t => cases r3.inv with
     | int ti =>
      obtain ⟨a, rfl, T⟩ := gG o R r1
      have ex : (⟨x.cps.toList.toArray⟩ : Str) = x := (bc rfl).symm
      have hl := eN x.cps.toList l
      rw [ex] at hl
      refine call_get2_strTab T (Flat.int i ti) fun v hv => ?_
      rw [hl] at hv
      have : ((bG x.cps.toList l).map PyData.int).getD (.int i) = .int ((bG x.cps.toList l).getD i) := by cases bG x.cps.toList l <;> rfl
      rw [this] at hv
      obtain ⟨t', rfl⟩ := jA hv
      exact ⟨W, _, σ, .rfl, .int _ _, R.tok, h⟩
theorem flatPairs_keys : ∀ {kvs : List (Str × Value)} {l : List (List Nat × Int)}, FlatPairs PyData.str kvs (kvD l) -> kvs.map (·.1) = l.map fun p => (⟨p.1.toArray⟩ : Str) := by
 intro kvs
 induction kvs with
 | nil =>
  intro l h
  cases l with
  | nil => rfl
  | cons => cases h
 | cons a r ih =>
  intro l h
  cases l with
  | nil => cases h
  | cons p l =>
   obtain ⟨pk, pi⟩ := p
   cases h with
   | cons f h => rw [List.map_cons, List.map_cons, ih h]
theorem sort_strs {D : Addr} {vs : List Value} {ss : List Str} {n : Nat} {prog : Program} {w : World} {A : Around} {E : Value -> Shared -> Prop} {Q : Value -> Shared -> Prop} (ho : s.heap.get? D = some (aA "list" .none vs n #[])) (hS : StrsAre vs ss) (h64 : vs.length < 64)
  (h : ∀ (out : Array Value) (ss' : List Str), StrsAre out.toList ss' -> ss'.Perm ss -> Q .none { s with heap := sortedHeap s.heap D vs out }) : wpAny (model prog w) A (call (.builtin "list.sort") [.ref D]) Q E s := by
 refine wpAny_call_entry slot_list_sort ⟨_, ho, rfl⟩ entry_list_sort (list_sort_treeK strKind_oneLt ho hS.keysOf (fun v_1 v_2 rest e => keyKind_strs (by rw [<- e]; exact hS)) h64 fun st' hp hs => ?_) (args_list_sort _)
 obtain ⟨ss', h1, h2, h3⟩ := sorted_out_str hS hp hs
 exact ⟨.none, rfl, h _ ss' h1 h2⟩
theorem j8 {l : List (List Nat × Int)} (o : X.Ok G) (hh : X.A.handled = none) (hz : l.length < 64) (h : ∀ ks : List (List Nat), ks.Perm (l.map (·.1)) -> Φ (.lst (ks.map .str)) σ) : aR G X (.val (.builtin "sorted")) [.dict (kvV l)] Φ Ψ σ := by
 intro W vf vs rf rs s R
 cases rf.inv
 cases rs.inv with
 | cons r1 rs =>
  cases rs.inv
  obtain ⟨a, kvs, ep, rfl, lo, hat, hf⟩ := dict_at o R r1
  have R' := R
  obtain ⟨⟨m, M, Q⟩, sh⟩ := R'
  have hk := flatPairs_keys hf
  have hlen : kvs.length = l.length := by have := congrArg List.length hk; simpa using this
  refine kdu_sorted (kdl_dict (knd := PySem.strKind G.prog G.w) (kvs := kvs) (ep := ep) lo) hh Q.fr Q.nw hat (by rw [hlen, sizeLine_eq]; exact (Om.q 2 0 (.i (.t .x1 (.k 64)) (.i (.e .x0 .x1) (.l .x1 (.k 16777216))))) _ _ hz hlen) fun B h' tk vs F' N' l1 hl hv => ?_
  have hS : StrsAre vs (kvs.map (·.1)) := by
   have key : ∀ (vs : List Value) (kvs : List (Str × Value)), vs.length = kvs.length -> (∀ (j : Nat) (v : Value), vs[j]? = some v -> ∃ k x, kvs[j]? = some (k, x) /\ (PySem.strKind G.prog G.w).is k v = true) -> StrsAre vs (kvs.map (·.1)) := by
    intro vs
    induction vs with
    | nil => intro kvs e _; cases kvs with | nil => exact .nil | cons => injection e
    | cons v vs ih =>
     intro kvs e hv
     cases kvs with
     | nil => injection e
     | cons kv kvs =>
      obtain ⟨k, x, e1, e2⟩ := hv 0 v rfl
      obtain rfl := Option.some.inj e1
      obtain ⟨t, rfl⟩ := Value.isStrOf_shape e2
      exact .cons _ t (ih kvs (Nat.succ.inj e) fun j u hu => hv (j + 1) u hu)
   exact key vs kvs hl hv
  have ho : h'.get? B = some (aA "list" .none vs 0 #[]) := (N' _ (.head _)).1
  have nB := N' (B, _) (.head _)
  refine sort_strs (s := { s with heap := h', toks := tk }) ho hS ((Om.q 3 0 (.i (.t .x2 (.k 64)) (.i (.e .x1 .x2) (.i (.e .x0 .x1) (.t .x0 (.k 64)))))) _ _ _ hz hlen hl) fun out ss' a1 a2 => ?_
  obtain ⟨e, he⟩ := sortedHeap_at (vs := vs) (out := out) ho
  have kk : ∀ b ob, b ∉ [B] -> h'.get? b = some ob -> (sortedHeap h' B vs out).get? b = some ob := fun b ob hb e => (sortedHeap_old (fun q => hb (by rw [q]; exact .head _)) (Heap.lt_size e)).trans e
  have F4 := LCg.fr_but F' kk (Ne.symm nB.2.1) nB.2.2
  have hss : ss'.Perm (l.map fun p => (⟨p.1.toArray⟩ : Str)) := hk ▸ a2
  obtain ⟨ks, hks, hp⟩ : ∃ ks : List (List Nat), ss' = ks.map (fun l => (⟨l.toArray⟩ : Str)) /\ ks.Perm (l.map (·.1)) := by
   refine ⟨ss'.map fun x => x.cps.toList, ?_, ?_⟩
   ·rw [List.map_map]
    have : ((fun l : List Nat => (⟨l.toArray⟩ : Str)) ∘ fun x : Str => x.cps.toList) = id := by funext x; rfl
    rw [this, List.map_id]
   ·have := hss.map fun x : Str => x.cps.toList
    rw [List.map_map] at this
    exact this
  subst hks
  have rv : ∀ {vs : List Value} {ks : List (List Nat)} {W : Wd}, StrsAre vs (ks.map fun l => (⟨l.toArray⟩ : Str)) -> RVs G.P G.K W vs (ks.map .str) := by
   intro vs
   induction vs with
   | nil => intro ks W h; cases ks with | nil => exact .nil | cons => cases h
   | cons v vs ih =>
    intro ks W h
    cases ks with
    | nil => cases h
    | cons k ks => cases h with | cons y t h => exact .cons (.str ⟨k.toArray⟩ t) (ih h)
  refine ⟨⟨(B, aA "list" .none out.toList e #[]) :: W.Z, W.α⟩, _, σ, leZ, .lst (.inr (.head _)) (rv a1), ⟨⟨m, M, F4, fun p hp => ?_, ?_, Q.lc.mono leZ, Q.re.mono leZ, ⟨Q.st.nod, Q.st.loc, Q.st.glb⟩, Q.cp⟩, ⟨sh.gens, sh.drawn, sh.os⟩⟩, h ks hp⟩
  ·have pm : (X.pins ++ (M ++ (B, aA "list" .none out.toList e #[]) :: W.Z)).Perm ((B, aA "list" .none out.toList e #[]) :: (X.pins ++ (M ++ W.Z))) := by
    rw [<- List.append_assoc, <- List.append_assoc]
    exact List.perm_middle
   rcases List.mem_cons.mp (pm.mem_iff.mp hp) with rfl | hp
   ·refine ⟨?_, nB.2.1, nB.2.2⟩
    rw [Array.toArray_toList]; exact he
   ·have := N' p (.tail _ hp)
    exact ⟨kk _ _ (fun q => Nat.lt_irrefl _ (by have := l1 p hp; rw [List.mem_singleton.mp q] at this; exact this)) this.1, this.2⟩
  ·have pm : (X.pins ++ (M ++ (B, aA "list" .none out.toList e #[]) :: W.Z)).Perm ((B, aA "list" .none out.toList e #[]) :: (X.pins ++ (M ++ W.Z))) := by
    rw [<- List.append_assoc, <- List.append_assoc]
    exact List.perm_middle
   refine (pm.map _).nodup_iff.mpr (List.nodup_cons.mpr ⟨fun q => ?_, Q.nod⟩)
   obtain ⟨p, hp, e⟩ := List.mem_map.mp q
   have := l1 p hp
   rw [e] at this; exact Nat.lt_irrefl _ this
inductive LitPairs : List (Option Expr) -> List Expr -> List (Str × Int) -> Prop
 | nil : LitPairs [] [] []
 | pos {x : Str} {i : Int} {k k' : Nat} {p p' : Pos} {ks : List (Option Expr)} {vs : List Expr} {r : List (Str × Int)} (h : LitPairs ks vs r) : LitPairs (some (.Constant (.str x) k p) :: ks) (.Constant (.int i) k' p' :: vs) ((x, i) :: r)
 | neg {x : Str} {i : Int} {k k' : Nat} {p p' p'' : Pos} {ks : List (Option Expr)} {vs : List Expr} {r : List (Str × Int)} (h : LitPairs ks vs r) : LitPairs (some (.Constant (.str x) k p) :: ks) (.UnaryOp .USub (.Constant (.int i) k' p') p'' :: vs) ((x, -i) :: r)
inductive LitVs : List (Value × Value) -> List (Str × Value) -> List (Str × Int) -> Prop
 | nil : LitVs [] [] []
 | cons {x : Str} {i : Int} {t u : Tok} {vs : List (Value × Value)} {kvs : List (Str × Value)} {r : List (Str × Int)} (h : LitVs vs kvs r) : LitVs ((.str x t, .int i u) :: vs) ((x, .int i u) :: kvs) ((x, i) :: r)
theorem jv {prog : Program} {w : World} {A : Around} {E : Value -> Shared -> Prop} {env : Env} {pos : Pos} {ks : List (Option Expr)} {es : List Expr} {r : List (Str × Int)} (h : LitPairs ks es r) : ∀ {s : Shared} {Q : List (Value × Value) -> Shared -> Prop}, (∀ vs kvs tk, LitVs vs kvs r -> Q vs { s with toks := tk }) ->
  wpAny (model prog w) A (evalPairs (pairTrees ks es env pos)) Q E s := by
 induction h with
 | nil => intro s Q k; exact pairTrees_nil_walk (k [] [] s.toks .nil)
 | pos h ih =>
  intro s Q k
  exact pairTrees_cons_walk (Constant_str (wpAny_Constant_int (ih fun vs kvs tk hv => k _ _ tk (.cons hv))))
 | neg h ih =>
  intro s Q k
  exact pairTrees_cons_walk (Constant_str (wpAny_UnaryOp (wpAny_Constant_int (P.neg_int (ih fun vs kvs tk hv => k _ _ tk (.cons hv))))))
theorem ju {prog : Program} {w : World} {vs : List (Value × Value)} {kvs : List (Str × Value)} {r : List (Str × Int)} (h : LitVs vs kvs r) : Carries (PySem.strKind prog w) vs kvs := by
 induction h with
 | nil => trivial
 | cons h ih => exact ⟨strKind_is prog w _ _, rfl, ih⟩
theorem kX {vs : List (Value × Value)} {kvs : List (Str × Value)} {r : List (Str × Int)} (h : LitVs vs kvs r) : kvs.map (·.1) = r.map (·.1) := by
 induction h with
 | nil => rfl
 | cons h ih => simp [ih]
theorem jT {kvs : List (Str × Value)} : ∀ {acc : List (Str × Value)}, ((acc ++ kvs).map (·.1)).Nodup -> merged acc kvs = acc ++ kvs := by
 induction kvs with
 | nil => intro acc _; simp [merged]
 | cons p r ih =>
  intro acc hn
  have e : acc ++ p :: r = (acc ++ [p]) ++ r := by simp
  have st : stored acc p.1 p.2 = acc ++ [p] := by
   unfold stored
   have : acc.any (fun kv => decide (kv.1 = p.1)) = false := by
    rw [List.any_eq_false]
    intro q hq
    simp only [decide_eq_true_eq]
    intro z
    rw [List.map_append, List.nodup_append] at hn
    exact hn.2.2 q.1 (List.mem_map_of_mem hq) p.1 (by simp) z
   rw [this]; rfl
  show merged (stored acc p.1 p.2) r = _
  rw [st, ih (by rw [<- e]; exact hn), e]
theorem rks_make {P : Params} {K : Frag} {W : Wd} {prog : Program} {w : World} {es : List DictEntry} : ∀ {kvs : List (Str × Value)} {vs : List (Value × Value)} {r : List (Str × Int)}, P = w.params -> Pairs (PySem.strKind prog w) es kvs -> (∀ e ∈ es, ∃ k, (PySem.strKind prog w).is k e.key = true /\ e.hash = (PySem.strKind prog w).hash k) -> LitVs vs kvs r -> RKs P K W es (r.map fun p => (p.1.cps.toList, .int p.2)) := by
 induction es with
 | nil => intro kvs vs r eP hp hk hv; cases hp; cases hv; exact .nil
 | cons e es ih =>
  intro kvs vs r eP hp hk hv
  cases hp with
  | cons h1 h2 h3 =>
   cases hv with
   | @cons x i t u vs kvs r hv =>
   obtain ⟨hsh, key, val⟩ := e
   dsimp only at h1 h2
   obtain ⟨t, rfl⟩ := Value.isStrOf_shape h1
   obtain ⟨k, k1, k2⟩ := hk _ (.head _)
   obtain ⟨t', e'⟩ := Value.isStrOf_shape (x := k) (v := .str x t) k1
   injection e' with e1 e2
   subst e1 h2
   have k2 : hsh = PyData.keyHash P x := by rw [eP]; exact k2
   subst k2
   exact .cons (.int _ _) (ih eP h3 (fun e he => hk e (.tail _ he)) hv)
theorem mod_low (o : X.Ok G) {h : Heap} (hk : ∀ b ob, X.h₀.get? b = some ob -> h.get? b = some ob) : (h.objs.size == sysModules) = false := by
 obtain ⟨ob, es, ep, hL, _⟩ := o.top.g.keeps hk
 have := Heap.lt_size hL
 have h3 : mainGlobals < h.objs.size := this
 have : (3 : Nat) < h.objs.size := h3
 have h1 : (1 : Nat) ≠ h.objs.size := by exact (Om.q 1 0 (.i (.t (.k 3) .x0) (.n (.e .k1 .x0)))) _ this
 simp only [beq_eq_false_iff_ne, ne_eq]
 exact fun q => h1 q.symm
theorem ex_dict {keys : List (Option Expr)} {values : List Expr} {pos : Pos} {r : List (Str × Int)} (o : X.Ok G) (hl : LitPairs keys values r) (hall : keys.all (·.isSome) = true) (hlen : keys.length = values.length) (h0 : keys ≠ []) (h15 : keys.length <= 15) (hn : (r.map fun p => p.1.cps.toList).Nodup)
  (h : Φ (.dict (kvV (r.map fun p => (p.1.cps.toList, p.2)))) σ) : EX G X (.Dict keys values pos) Φ Ψ σ := by
 intro W s R
 have R' := R
 obtain ⟨⟨m, M, Q⟩, sh⟩ := R'
 have hm := mod_low o Q.fr.keep
 refine Dict_made_str (by
  have : ∀ {keys values r}, LitPairs keys values r -> strLits keys = true := by
   intro keys values r h
   induction h with
   | nil => rfl
   | pos h ih => exact ih
   | neg h ih => exact ih
  exact this hl) Q.fr hall hlen h0 h15 fun F' => ?_
 refine jv hl fun vs kvs tk hv => ⟨kvs, ju hv, ?_, fun h' hd hs => ?_⟩
 ·exact ⟨_, #[], 0, Heap.get?_push_size _ rfl, ⟨rfl, rfl, rfl⟩, rfl, (fun e he => absurd he (by simp)), .nil, List.nodup_nil⟩
 ·have hk := kX hv
  have nd : (r.map (·.1)).Nodup := by
   rw [show (r.map fun p => p.1.cps.toList) = (r.map (·.1)).map fun x : Str => x.cps.toList from by rw [List.map_map]; rfl] at hn
   exact (List.pairwise_map.mp hn).imp fun h q => h (congrArg (fun x : Str => x.cps.toList) q)
  rw [jT (by simpa [hk] using nd), List.nil_append] at hd
  obtain ⟨ob, es, ep, g1, g2, g3, g4, g5, g6⟩ := hd
  obtain ⟨cl, dd, dt, sl⟩ := ob
  obtain ⟨x1, x2, x3⟩ := g2
  dsimp only at x1 x2 x3 g3
  subst x1 x2 x3 g3
  have g1' : h'.get? s.heap.objs.size = some (dictOf es.toList ep) := by
   unfold dictOf; rw [Array.toArray_toList]; exact g1
  have kk : ∀ b o, s.heap.get? b = some o -> h'.get? b = some o := fun b o e => (hs.2 b (Nat.ne_of_lt (Heap.lt_size e))).trans (Heap.get?_push_of_some _ e)
  have hr : RKs G.P G.K ⟨(s.heap.objs.size, dictOf es.toList ep) :: W.Z, W.α⟩ es.toList (r.map fun p => (p.1.cps.toList, .int p.2)) := rks_make rfl g5 (fun e he => g4 e (by simpa using he)) hv
  have e : kvV (r.map fun p => (p.1.cps.toList, p.2)) = r.map fun p => (p.1.cps.toList, V.int p.2) := by unfold kvV; rw [List.map_map]; rfl
  refine ⟨⟨(s.heap.objs.size, dictOf es.toList ep) :: W.Z, W.α⟩, _, σ, leZ, .dict (.inr (.head _)) (e ▸ hr) ?_ hm, R.newZ (tk := tk + vs.length) kk dp g1', h⟩
  rw [e, List.map_map]; exact hn
end
end
noncomputable def isNone : V -> Bool
 | .none => true
 | _ => false
section
variable {G : Gx} {X : Fx} {σ : St} {W : Wd} {Ψ : Ps} {s : Shared} {Φ : V -> St -> Prop} {ΦB : Bool -> St -> Prop} {ΦF : Fl -> St -> Prop}
theorem pv_abs {a : Int} (h : Φ (.int (if a < 0 then -a else a)) σ) : aR G X (.val (.builtin "abs")) [.int a] Φ Ψ σ := by
 intro W vf vs rf rs s R
 cases rf.inv
 cases rs.inv with
 | cons r rs =>
  cases rs.inv
  cases r.inv with
  | int t => exact call_abs_int fun u tk => ⟨W, _, σ, .rfl, .int _ _, R.tok, h⟩
theorem pv_int {a : Int} (h : Φ (.int a) σ) : aR G X (.val (.type "int")) [.int a] Φ Ψ σ := by
 intro W vf vs rf rs s R
 cases rf.inv
 cases rs.inv with
 | cons r rs =>
  cases rs.inv
  cases r.inv with
  | int t => exact call_int_int ⟨W, _, σ, .rfl, .int _ _, R, h⟩
theorem bin_pow {a n : Int} (hn : 0 <= n) (hn2 : n <= 1000000) (ha : a.natAbs < 2 ^ 64) (h : Φ (.int (a ^ n.toNat)) σ) : BIN G X .Pow (.int a) (.int n) Φ Ψ σ := by
 intro W x y rx ry s R
 cases rx.inv; cases ry.inv
 exact pow_int_small hn hn2 ha ⟨W, _, σ, .rfl, .int _ _, R.tok, h⟩
theorem pv_range1 {n : Int} (h : Φ (.rng 0 n) σ) : aR G X (.val (.type "range")) [.int n] Φ Ψ σ := by
 intro W vf vs rf rs s R
 cases rf.inv
 cases rs.inv with
 | cons r rs =>
  cases rs.inv
  cases r.inv with
  | int t =>
   refine call_range_1 ⟨_, _, σ, leZ, .rng (.inr (.head _)), R.newZ (fun b o e => Heap.get?_push_of_some _ e) dp (Heap.get?_push_size _ rfl), h⟩
theorem pv_range2 {a n : Int} (h : Φ (.rng a n) σ) : aR G X (.val (.type "range")) [.int a, .int n] Φ Ψ σ := by
 intro W vf vs rf rs s R
 cases rf.inv
 cases rs.inv with
 | cons r1 rs => cases rs.inv with
  | cons r rs =>
   cases rs.inv
   cases r1.inv with
   | int t => cases r.inv with
    | int u =>
     refine call_range_2 ⟨_, _, σ, leZ, .rng (.inr (.head _)), R.newZ (fun b o e => Heap.get?_push_of_some _ e) dp (Heap.get?_push_size _ rfl), h⟩
theorem pv_bytes {ns : List Int} (o : X.Ok G) (hh : X.A.handled = none) (hr : ∀ n ∈ ns, 0 <= n /\ n < 256) (hz : ns.length <= 1000000) (h : Φ (.bytes (ns.map fun n => n.toNat.toUInt8)) σ) : aR G X (.val (.type "bytes")) [.lst (ns.map .int)] Φ Ψ σ := by
 intro W vf vs rf rs s R
 cases rf.inv
 cases rs.inv with
 | cons r rs =>
  cases rs.inv
  obtain ⟨a, vs, rfl, hl, rr⟩ := aH o R r
  have hi := ints_of rr
  refine call_bytes_ints hl hi hr (by have := hi.length; rw [sizeLine_eq]; exact (Om.q 2 0 .f27) _ _ hz this) hh fun h' t k hk => ⟨W, _, σ, .rfl, .bytes _ _, R.grow hk, ?_⟩
  unfold byteArr; exact h
theorem fS {x : Value} {a : V} (r : RV G.P G.K W x a) (hp : plainV a = true) : plainIs x .none = true /\ (x == Value.none) = isNone a := by
 cases a <;> first | (cases r.inv; exact ⟨rfl, rfl⟩) | injection hp
theorem is_none {a : V} (hp : plainV a = true) (h : Φ (.bool (isNone a)) σ) : CMP G X .Is a .none Φ Ψ σ := by
 intro W x y rx ry s R
 cases ry.inv
 refine wpAny_is_plain (fS rx hp).1 ⟨W, _, σ, .rfl, .bool _, R, ?_⟩
 rw [(fS rx hp).2]; exact h
theorem ld {a : V} (hp : plainV a = true) (h : Φ (.bool (!isNone a)) σ) : CMP G X .IsNot a .none Φ Ψ σ := by
 intro W x y rx ry s R
 cases ry.inv
 refine wpAny_isNot_plain (fS rx hp).1 ⟨W, _, σ, .rfl, .bool _, R, ?_⟩
 rw [(fS rx hp).2]; exact h
theorem eq_none_none (h : Φ (.bool true) σ) : CMP G X .Eq .none .none Φ Ψ σ := by
 intro W x y rx ry s R
 cases rx.inv; cases ry.inv
 exact PySem.EqNone.eq_none_none ⟨W, _, σ, .rfl, .bool _, R, h⟩
theorem kI {oe ie e : Expr} {p2 pos : Pos} (o : X.Ok G) (hn : notComp e = true)
  (h : EX G X e (fun d σ1 => EX G X oe (fun r σ2 => EX G X ie (fun k σ3 => ∃ i j ds, r = .loc i /\ k = .int j /\ σ3.heap[i]? = some (some (.list ds)) /\ 0 <= j /\ j < ds.length /\ ds.length <= 1000000 /\ ΦF .next { σ3 with heap := σ3.heap.set i (some (.list (ds.set j.toNat d))) }) Ψ σ2) Ψ σ1) Ψ σ) :
  SX G X (.Assign [.Subscript oe ie p2] e pos) ΦF Ψ σ := by
 intro W s R
 refine wpAny_Assign_Subscript (wpAny_mono (h W s R) (fun v s_1 yy => ?_) fun _ _ y => y) (hs := cE hn)
 obtain ⟨W1, d, σ1, l_1, rv, R_1, h_1⟩ := yy
 refine wpAny_mono (h_1 W1 s_1 R_1) (fun ov s_2 yy => ?_) fun _ _ y => y
 obtain ⟨W_2, r, σ2, l_2, rr, R_2, h_2⟩ := yy
 refine wpAny_mono (h_2 W_2 s_2 R_2) (fun iv s_3 yy => ?_) fun _ _ y => y
 obtain ⟨W_3, k, σ3, l_3, rk, R_3, i, j, ds, er, ek, hi, h0, h1, hz, hΦ⟩ := yy
 subst er ek
 obtain ⟨a, vs, n, rfl, rs, ho, kk⟩ := bW R_3 hi (rr.mono l_3)
 cases rk.inv
 have hl := rs.length
 refine ki_setAt (n := n) ho h0 ((Om.q 2 1 (.i (.T .x0 (.c .x1)) (.i (.l .x1 (.k 1000000)) (.i (.e .x0 .x1) (.T .x0 (.k 9223372036854775808)))))) _ _ _ h1 hz hl) (by simp; exact (Om.q 2 1 (.i (.T .x0 (.c .x1)) (.i (.e .x0 .x1) (.T .x0 (.c .x0))))) _ _ _ h1 hl) ?_
 refine ⟨W_3, _, _, (l_1.trans l_2).trans l_3, .next, kk (Obj.mapSeq (·.setIfInBounds j.toNat v)) (vs.set j.toNat v) (ds.set j.toNat d) n s_3.toks ?_ (rs.set _ (rv.mono (l_2.trans l_3))), hΦ⟩
 simp [Obj.mapSeq]
end
noncomputable def strsOf : List V -> Option (List (List Nat))
 | [] => some []
 | .str a :: r => (strsOf r).map (a :: ·)
 | _ :: _ => none
noncomputable def intsOf : List V -> Option (List Int)
 | [] => some []
 | .int a :: r => (intsOf r).map (a :: ·)
 | _ :: _ => none
set_option tactic.hygienic true in
theorem strsOf_eq : ∀ {ds : List V} {bs : List (List Nat)}, strsOf ds = some bs -> ds = bs.map .str
 | [], _, h => by obtain rfl := Option.some.inj h; rfl
 | d :: r, bs, h => by
  unfold strsOf at h
  split at h
  ·rename_i q; injection q
  ·rename_i a r' q
   cases q
   obtain ⟨t, ht, rfl⟩ := Option.map_eq_some_iff.mp h
   rw [strsOf_eq ht]; rfl
  ·injection h
set_option tactic.hygienic true in
theorem intsOf_eq : ∀ {ds : List V} {bs : List Int}, intsOf ds = some bs -> ds = bs.map .int
 | [], _, h => by obtain rfl := Option.some.inj h; rfl
 | d :: r, bs, h => by
  unfold intsOf at h
  split at h
  ·rename_i q; injection q
  ·rename_i a r' q
   cases q
   obtain ⟨t, ht, rfl⟩ := Option.map_eq_some_iff.mp h
   rw [intsOf_eq ht]; rfl
  ·injection h
theorem bL (bs : List (List Nat)) : strsOf (bs.map .str) = some bs := by
 induction bs with
 | nil => rfl
 | cons a r ih => show (strsOf (r.map .str)).map _ = _; rw [ih]; rfl
section
variable {G : Gx} {X : Fx} {σ : St} {W : Wd} {Ψ : Ps} {s : Shared} {Φ : V -> St -> Prop} {ΦB : Bool -> St -> Prop} {ΦF : Fl -> St -> Prop}
theorem pc_cast {f : V} {ds : List V} {v v' : V} (h : PC G X f ds σ v) (q : v = v') : PC G X f ds σ v' := q ▸ h
theorem pq_eqs {a b : List Nat} : PQ G X .Eq (.str a) (.str b) σ (.bool (decide (a = b))) := cmp_eq_s ⟨rfl, rfl⟩
theorem pq_nes {a b : List Nat} : PQ G X .NotEq (.str a) (.str b) σ (.bool (decide (a ≠ b))) := cmp_ne_s ⟨rfl, rfl⟩
theorem pq_les {a b : List Nat} : PQ G X .LtE (.str a) (.str b) σ (.bool (!decide (b < a))) := cmp_le_s ⟨rfl, rfl⟩
theorem bC {a b : List Nat} (hz : a.length + b.length <= 1000000) : PB2 G X .Add (.str a) (.str b) σ (.str (a ++ b)) := cz hz ⟨rfl, rfl⟩
theorem pb_muls {a : List Nat} {n : Int} (hz : a.length = 1) (h1 : n <= 1000) (h0 : -1000000 <= n) : PB2 G X .Mult (.str a) (.int n) σ (.str (List.replicate n.toNat a).flatten) := bin_mul_s hz h1 h0 ⟨rfl, rfl⟩
theorem pq_ins {a b : List Nat} {c : Nat} (e : a = [c]) : PQ G X .In (.str a) (.str b) σ (.bool (b.contains c)) := by subst e; exact cmp_in_s1 ⟨rfl, rfl⟩
theorem pq_notins {a b : List Nat} {c : Nat} (e : a = [c]) : PQ G X .NotIn (.str a) (.str b) σ (.bool (!b.contains c)) := by subst e; exact jW ⟨rfl, rfl⟩
theorem pc_lens {a : List Nat} (hz : a.length <= 1000000) : PC G X (.val (.builtin "len")) [.str a] σ (.int a.length) := len_s hz ⟨rfl, rfl⟩
theorem pg_s {a : List Nat} {k : Int} {c : Nat} (h0 : 0 <= k) (hz : a.length <= 1000000) (hc : a[k.toNat]? = some c) : PG G X (.str a) (.int k) σ (.str [c]) := get_s h0 hz hc ⟨rfl, rfl⟩
theorem pc_chr {i : Int} (h0 : 0 <= i) (h1 : i <= 1114111) : PC G X (.val (.builtin "chr")) [.int i] σ (.str [i.toNat]) := chr_ h0 h1 ⟨rfl, rfl⟩
theorem pc_ord {c : Nat} : PC G X (.val (.builtin "ord")) [.str [c]] σ (.int c) := ord_ ⟨rfl, rfl⟩
theorem hV {b : List Nat} {i : Int} (hz : b.length <= 1000000) (h1 : 0 <= i) : PS G X (.str b) (some i) none σ (.str (b.drop i.toNat)) := slc_s1 hz h1 ⟨rfl, rfl⟩
theorem ps_s0 {b : List Nat} {j : Int} (hz : b.length <= 1000000) (h1 : 0 <= j) : PS G X (.str b) none (some j) σ (.str (b.take j.toNat)) := slc_s0 hz h1 ⟨rfl, rfl⟩
theorem ps_s2 {b : List Nat} {i j : Int} (hz : b.length <= 1000000) (h0 : 0 <= i) (h1 : i <= j) (h2 : j <= b.length) : PS G X (.str b) (some i) (some j) σ (.str (slB b i j)) := slc_s2 hz h0 h1 h2 ⟨rfl, rfl⟩
theorem pc_lower {b : List Nat} (hb : ∀ c ∈ b, c < 256) (hz : b.length <= 1000000) : PC G X (.val (.builtin "str.lower")) [.str b] σ (.str (lowL b)) := lA hb hz ⟨rfl, rfl⟩
theorem gA {b : List Nat} (hb : ∀ c ∈ b, c < 256) (hz : b.length <= 1000000) : PC G X (.val (.builtin "str.upper")) [.str b] σ (.str (uppL b)) := lz hb hz ⟨rfl, rfl⟩
theorem pc_strn {n : Int} (h0 : 0 <= n) (h1 : n < 10 ^ 9) : PC G X (.val (.type "str")) [.int n] σ (.str (figs n.toNat)) := jX h0 h1 ⟨rfl, rfl⟩
theorem ej {b : List Nat} (hb : AllDigits b) (hne : b ≠ []) (hz : b.length <= 600) : PC G X (.val (.type "int")) [.str b] σ (.int (digitsVal b)) := jY hb hne hz ⟨rfl, rfl⟩
theorem pc_inti {a : Int} : PC G X (.val (.type "int")) [.int a] σ (.int a) := pv_int ⟨rfl, rfl⟩
theorem pc_abs {a : Int} : PC G X (.val (.builtin "abs")) [.int a] σ (.int (if a < 0 then -a else a)) := pv_abs ⟨rfl, rfl⟩
theorem pc_range1 {n : Int} : PC G X (.val (.type "range")) [.int n] σ (.rng 0 n) := pv_range1 ⟨rfl, rfl⟩
theorem pc_range2 {a n : Int} : PC G X (.val (.type "range")) [.int a, .int n] σ (.rng a n) := pv_range2 ⟨rfl, rfl⟩
theorem jo {ds : List V} {ns : List Int} (e : ds = ns.map .int) (o : X.Ok G) (hh : X.A.handled = none) (hr : ∀ n ∈ ns, 0 <= n /\ n < 256) (hz : ns.length <= 1000000) : PC G X (.val (.type "bytes")) [.lst ds] σ (.bytes (ns.map fun n => n.toNat.toUInt8)) := by subst e; exact pv_bytes o hh hr hz ⟨rfl, rfl⟩
theorem pb_pow {a n : Int} (hn : 0 <= n) (hn2 : n <= 1000000) (ha : a.natAbs < 2 ^ 64) : PB2 G X .Pow (.int a) (.int n) σ (.int (a ^ n.toNat)) := bin_pow hn hn2 ha ⟨rfl, rfl⟩
theorem ei {sep : List Nat} {ds : List V} {bs : List (List Nat)} (e : ds = bs.map .str) (o : X.Ok G) (hs : sep.length <= 10) (hn : bs.length <= 100000) (hz : bs.flatten.length <= 1000000) : PC G X (.val (.builtin "str.join")) [.str sep, .lst ds] σ (.str (aX sep bs)) := by subst e; exact ky o hs hn hz ⟨rfl, rfl⟩
theorem pq_inls {k : List Nat} {ds : List V} {bs : List (List Nat)} (o : X.Ok G) (e : strsOf ds = some bs) : PQ G X .In (.str k) (.lst ds) σ (.bool (bs.contains k)) := by rw [strsOf_eq e]; exact in_lst_s o ⟨rfl, rfl⟩
theorem pq_ints {k : List Nat} {ds : List V} {bs : List (List Nat)} (o : X.Ok G) (e : strsOf ds = some bs) : PQ G X .In (.str k) (.tup ds) σ (.bool (bs.contains k)) := by rw [strsOf_eq e]; exact in_tup_s o ⟨rfl, rfl⟩
theorem kN {k : List Nat} {ds : List V} {bs : List (List Nat)} (o : X.Ok G) (e : strsOf ds = some bs) : PQ G X .NotIn (.str k) (.tup ds) σ (.bool (!bs.contains k)) := by rw [strsOf_eq e]; exact ki o ⟨rfl, rfl⟩
theorem pq_inti {k : Int} {ds : List V} {bs : List Int} (o : X.Ok G) (e : intsOf ds = some bs) : PQ G X .In (.int k) (.tup ds) σ (.bool (bs.contains k)) := by rw [intsOf_eq e]; exact in_tup_i o ⟨rfl, rfl⟩
theorem pc_index {ds : List V} {k : List Nat} {bs : List (List Nat)} {j : Nat} (o : X.Ok G) (e : strsOf ds = some bs) (hz : bs.length <= 100000) (hj : bs[j]? = some k) (hno : ∀ i, i < j -> bs[i]? ≠ some k) : PC G X (.val (.builtin "list.index")) [.lst ds, .str k] σ (.int j) := by
 rw [strsOf_eq e]; exact jZ o hz hj hno ⟨rfl, rfl⟩
theorem pq_eqt {a b : List V} (o : X.Ok G) (hk : fkds a b = true) : PQ G X .Eq (.tup a) (.tup b) σ (.bool (feqs a b)) := eq_tup o hk ⟨rfl, rfl⟩
theorem pq_net {a b : List V} (o : X.Ok G) (hk : fkds a b = true) : PQ G X .NotEq (.tup a) (.tup b) σ (.bool (!feqs a b)) := ne_tup o hk ⟨rfl, rfl⟩
theorem pq_eqn {a : List V} (o : X.Ok G) : PQ G X .Eq (.lst a) (.lst []) σ (.bool a.isEmpty) := lk o ⟨rfl, rfl⟩
theorem pq_nen {a : List V} (o : X.Ok G) : PQ G X .NotEq (.lst a) (.lst []) σ (.bool (!a.isEmpty)) := kT o ⟨rfl, rfl⟩
theorem pq_is0 {a : V} (hp : plainV a = true) : PQ G X .Is a .none σ (.bool (isNone a)) := is_none hp ⟨rfl, rfl⟩
theorem pq_isnot0 {a : V} (hp : plainV a = true) : PQ G X .IsNot a .none σ (.bool (!isNone a)) := ld hp ⟨rfl, rfl⟩
theorem pb_addl {a b : List V} (o : X.Ok G) (hz : a.length + b.length <= 1000000) : PB2 G X .Add (.lst a) (.lst b) σ (.lst (a ++ b)) := add_lst o hz ⟨rfl, rfl⟩
theorem ig {a b : List V} {i : Nat} (o : X.Ok G) (hi : σ.heap[i]? = some (some (.list a))) (hz : a.length + b.length <= 1000000) : PB2 G X .Add (.loc i) (.lst b) σ (.lst (a ++ b)) := add_loc o hi hz ⟨rfl, rfl⟩
theorem ps_l0 {a : List V} {j : Int} (o : X.Ok G) (hz : a.length <= 1000000) (h0 : 0 <= j) : PS G X (.lst a) none (some j) σ (.lst (a.take j.toNat)) := slc_lst0 o hz h0 ⟨rfl, rfl⟩
theorem ps_init {a : List V} {i : Nat} (o : X.Ok G) (hi : σ.heap[i]? = some (some (.list a))) (hz : a.length <= 1000000) : PS G X (.loc i) none (some (-1)) σ (.lst a.dropLast) := jM o hi hz ⟨rfl, rfl⟩
theorem ps_t2 {a b c : V} (o : X.Ok G) : PS G X (.tup [a, b, c]) none (some 2) σ (.tup [a, b]) := slc_tup2 o ⟨rfl, rfl⟩
theorem pe_list {es : List Expr} {pos : Pos} {vs : List V} (h : PA G X es σ vs) (hl : vs.length <= 1000) : PE G X (.List es pos) σ (.lst vs) := .i (ex_lst fun q => cQ h ⟨hl, rfl, rfl⟩)
theorem pg_t {ds : List V} {k : Int} {d : V} (o : X.Ok G) (h0 : 0 <= k) (hz : ds.length <= 1000000) (hd : ds[k.toNat]? = some d) : PG G X (.tup ds) (.int k) σ d := ga o h0 hz hd ⟨rfl, rfl⟩
theorem pg_l {ds : List V} {k : Int} {d : V} (o : X.Ok G) (h0 : 0 <= k) (hz : k < 1000000) (hd : ds[k.toNat]? = some d) : PG G X (.lst ds) (.int k) σ d := get_lst o h0 hz hd ⟨rfl, rfl⟩
theorem cb {i : Nat} {ds : List V} {k : Int} {d : V} (hi : σ.heap[i]? = some (some (.list ds))) (h0 : 0 <= k) (hz : k < 1000000) (hd : ds[k.toNat]? = some d) : PG G X (.loc i) (.int k) σ d := get_loc hi h0 hz hd ⟨rfl, rfl⟩
theorem pg_d {l : List (List Nat × Int)} {k : List Nat} {i : Int} (o : X.Ok G) (hk : bG k l = some i) : PG G X (.dict (kvV l)) (.str k) σ (.int i) := get_dict o hk ⟨rfl, rfl⟩
theorem pc_dget {l : List (List Nat × Int)} {k : List Nat} {i : Int} (o : X.Ok G) : PC G X (.val (.builtin "dict.get")) [.dict (kvV l), .str k, .int i] σ (.int ((bG k l).getD i)) := call_dget o ⟨rfl, rfl⟩
theorem bY.mono {scope : Scope} {x : Str} {glb : List (Str × V)} {H : List (Option MO)} {d : V} {P Q : Fx -> St -> Prop} (h : bY G X scope x glb H d P) (k : ∀ X' σ', P X' σ' -> Q X' σ') : bY G X scope x glb H d Q := by
 unfold bY at h ⊢
 intros
 exact k _ _ (by apply h <;> assumption)
theorem bV {elt it : Expr} {x : Str} {xp pos : Pos} {scope : Scope} (glb : List (Str × V)) (f : V -> V) {d : V} {ds : List V} (o : X.Ok G) (hf : X.md = .fr) (hh : X.A.handled = none) (ok : cg scope x glb = true) (hg : Gls G glb) (hs : ∀ env y, foldedSetIterable it env y = pure y) (hclos : ∀ env, closureFor scope env = pure [])
  (h1 : PE G X it σ d) (hi : items d = some ds) (hk : iterOk d = true) (hz : ds.length <= 1000000) (he : ∀ d ∈ ds, bY G X scope x glb σ.heap d fun X' σ' => PE G X' elt σ' (f d)) : PE G X (.ListComp elt [⟨.Name x xp, it, [], 0⟩] scope pos) σ (.lst (ds.map f)) := .i (ex_comp0 glb f o hf hh ok hg hs hclos (am h1 ⟨ds, hi, hk, hz, fun d hd => (he d hd).mono fun _ _ => PE.o, rfl, rfl⟩))
theorem dJ {ct elt it : Expr} {x : Str} {xp pos : Pos} {scope : Scope} (glb : List (Str × V)) (c : V -> Bool) (f : V -> V) {d : V} {ds : List V} (o : X.Ok G) (hf : X.md = .fr) (hh : X.A.handled = none) (ok : cg scope x glb = true) (hg : Gls G glb) (hs : ∀ env y, foldedSetIterable it env y = pure y) (hclos : ∀ env, closureFor scope env = pure [])
  (h1 : PE G X it σ d) (hi : items d = some ds) (hk : iterOk d = true) (hz : ds.length <= 1000000) (ht : ∀ d ∈ ds, bY G X scope x glb σ.heap d fun X' σ' => PT G X' ct σ' (c d)) (he : ∀ d ∈ ds, c d = true -> bY G X scope x glb σ.heap d fun X' σ' => PE G X' elt σ' (f d)) : PE G X (.ListComp elt [⟨.Name x xp, it, [ct], 0⟩] scope pos) σ (.lst ((ds.filter c).map f)) := .i (ex_comp1 glb c f o hf hh ok hg hs hclos (am h1 ⟨ds, hi, hk, hz, fun d hd => (ht d hd).mono fun _ _ => PT.o, fun d hd hc => (he d hd hc).mono fun _ _ => PE.o, rfl, rfl⟩))
theorem gr {elt it : Expr} {x y : Str} {xp yp pos spos : Pos} {scope : Scope} {ts : List Stmt} (glb : List (Str × V)) (f : V -> V) {d : V} {ds : List V} {l' : List (Str × Option V)} (o : X.Ok G) (hf : X.md = .fr) (hh : X.A.handled = none) (ok : cg scope x glb = true) (hg : Gls G glb) (hs : ∀ env y, foldedSetIterable it env y = pure y) (hclos : ∀ env, closureFor scope env = pure [])
  (hsw : swapsWith (.ListComp elt [⟨.Name x xp, it, [], 0⟩] scope pos) (some (.Name y yp)) spos.line X.env = pure true)
  (h1 : PE G X it σ d) (hi : items d = some ds) (hk : iterOk d = true) (hz : ds.length <= 1000000) (he : ∀ d ∈ ds, bY G X scope x glb σ.heap d fun X' σ' => PE G X' elt σ' (f d)) (hp : Put y (.lst (ds.map f)) σ.loc l') (k : SSX G X ts ΦF Ψ { σ with loc := l' }) : SSX G X (.Assign [.Name y yp] (.ListComp elt [⟨.Name x xp, it, [], 0⟩] scope pos) spos :: ts) ΦF Ψ σ :=
 ay (sx_comp0 glb f o hf hh ok hg hs hclos hsw (am h1 ⟨ds, hi, hk, hz, fun d hd => (he d hd).mono fun _ _ => PE.o, l', hp, k⟩))
end
section
variable {G : Gx} {X : Fx} {σ : St} {W : Wd} {Ψ : Ps} {s : Shared} {Φ : V -> St -> Prop} {ΦB : Bool -> St -> Prop} {ΦF : Fl -> St -> Prop}
inductive RPost (σ : St) (r : Except Int (V × List (Option MO))) (fl : Fl) (σ' : St) : Prop
 | mk (d v : V) (H : List (Option MO)) (k : Nat) (h0 : retV fl = some d) (h1 : d = v) (h2 : r = .ok (v, H)) (h3 : σ.heap.length <= k) (h4 : σ'.heap.take k = H) (h5 : v.closed k = true) (h6 : af k H = true)
inductive NPost (σ : St) (r : Except Int (V × List (Option MO))) (fl : Fl) (σ' : St) : Prop
 | mk (H : List (Option MO)) (k : Nat) (h0 : retV fl = some .none) (h2 : r = .ok (.loc σ.heap.length, H)) (h3 : σ.heap.length + 1 <= k) (h4 : σ'.heap.take k = H) (h6 : af k H = true)
noncomputable abbrev RErr (r : Except Int (V × List (Option MO))) : Ps := fun a _ => r = .error a
noncomputable def RC (G : Gx) (X : Fx) (f : V) (ds : List V) (σ : St) (r : Except Int (V × List (Option MO))) : Prop :=
 ∀ (Φ : V -> St -> Prop) (Ψ : Ps), (∀ v H, r = .ok (v, H) -> Φ v { σ with heap := H }) -> (∀ a, r = .error a -> Ψ a σ.loc) -> aR G X f ds Φ Ψ σ
theorem rdef {x : Str} {D : Df} (names others : List Str) {ds : List V} (glb : List (Str × V)) {r : Except Int (V × List (Option MO))} (o : X.Ok G) (hf : X.md = .fr) (hr : 1 <= X.room) (fn : FnG G x D)
  (dk : DefOk x x D names others ds.length glb) (hg : Gls G glb)
  (hbody : ∀ X', X'.Ok G -> X'.md = .fr -> X'.A.handled = X.A.handled -> X'.room = X.room - 1 -> X'.scope = D.scope -> af σ.heap.length σ.heap = true ->
   SSX G X' D.body (RPost σ r) (RErr r) ⟨mkLoc names ds others, glb, σ.heap⟩) :
  RC G X (.glob x) ds σ r := by
 intro Φ Ψ h1 h2
 refine dN (Ψ := Ψ) o hr fn (.inl hf) dk hg fun X' o' hmd hh hr' hsc hcl => ?_
 intro W s R
 refine wpAny_mono (hbody X' o' hmd hh hr' hsc hcl W s R) (fun _ _ y => y.mono .rfl fun fl σ' yy => ?_) fun _ _ y => y.mono fun a l e => h2 a e
 obtain ⟨d, v, H, k, e0, e1, e2, hk, e3, e4, e5⟩ := yy
 subst e1
 exact ⟨d, e0, k, hk, by rw [e3]; exact e5, e4, by rw [e3]; exact h1 d H e2⟩
theorem rmeth {c m q : Str} {D : Df} (names others : List Str) {ds : List V} (glb : List (Str × V)) {r : Except Int (V × List (Option MO))} (o : X.Ok G) (hf : X.md = .fr) (hr : 1 <= X.room) (fn : MthG G c m q D)
  (dk : DefOk m q D names others ds.length glb) (hg : Gls G glb)
  (hbody : ∀ X', X'.Ok G -> X'.md = .fr -> X'.A.handled = X.A.handled -> X'.room = X.room - 1 -> X'.scope = D.scope -> af σ.heap.length σ.heap = true ->
   SSX G X' D.body (RPost σ r) (RErr r) ⟨mkLoc names ds others, glb, σ.heap⟩) :
  RC G X (.meth c m) ds σ r := by
 intro Φ Ψ h1 h2
 refine iP (Ψ := Ψ) o hr fn (.inl hf) dk hg fun X' o' hmd hh hr' hsc hcl => ?_
 intro W s R
 refine wpAny_mono (hbody X' o' hmd hh hr' hsc hcl W s R) (fun _ _ y => y.mono .rfl fun fl σ' yy => ?_) fun _ _ y => y.mono fun a l e => h2 a e
 obtain ⟨d, v, H, k, e0, e1, e2, hk, e3, e4, e5⟩ := yy
 subst e1
 exact ⟨d, e0, k, hk, by rw [e3]; exact e5, e4, by rw [e3]; exact h1 d H e2⟩
theorem rnew {c q : Str} {D : Df} {l : List Str} (names others : List Str) {ds : List V} (glb : List (Str × V)) {r : Except Int (V × List (Option MO))} (o : X.Ok G) (hf : X.md = .fr) (hr : 2 <= X.room) (hc : ClsG G c q D l)
  (dk : DefOk "__init__" q D names others (ds.length + 1) glb) (hg : Gls G glb)
  (hbody : ∀ X', X'.Ok G -> X'.md = .fr -> X'.A.handled = X.A.handled -> X'.room = X.room - 2 -> X'.scope = D.scope -> af (σ.heap.length + 1) (σ.heap ++ [some (.inst c [])]) = true ->
   SSX G X' D.body (NPost σ r) (RErr r) ⟨mkLoc names (.loc σ.heap.length :: ds) others, glb, σ.heap ++ [some (.inst c [])]⟩) :
  RC G X (.glob c) ds σ r := by
 intro Φ Ψ h1 h2
 refine call_new (Ψ := Ψ) o hr hc hf dk hg fun X' o' hmd hh hr' hsc hcl => ?_
 intro W s R
 refine wpAny_mono (hbody X' o' hmd hh hr' hsc hcl W s R) (fun _ _ y => y.mono .rfl fun fl σ' yy => ?_) fun _ _ y => y.mono fun a l e => h2 a e
 obtain ⟨H, k, e0, e2, hk, e3, e5⟩ := yy
 exact ⟨.none, e0, k, by rw [List.length_append]; exact hk, by rw [e3]; exact e5, rfl, rfl, by rw [e3]; exact h1 _ H e2⟩
theorem ex_rc {x : Str} {p pos : Pos} {es : List Expr} {f : V} {ds : List V} {r : Except Int (V × List (Option MO))} (o : X.Ok G) (hp : ag es = true) (h1 : PE G X (.Name x p) σ f) (hc : callable f = true) (h2 : PA G X es σ ds) (h3 : RC G X f ds σ r)
  (hok : ∀ v H, r = .ok (v, H) -> Φ v { σ with heap := H }) (herr : ∀ a, r = .error a -> Ψ a σ.loc) : EX G X (.Call (.Name x p) es [] pos) Φ Ψ σ :=
 cv o hp (am h1 ⟨hc, fun q => cQ h2 (h3 Φ Ψ hok herr)⟩)
theorem iD {oe : Expr} {name : Str} {apos pos : Pos} {es : List Expr} {a f : V} {df ds : List V} {r : Except Int (V × List (Option MO))} (ok : X.Ok G) (hp : ag es = true)
  (he : ∃ pl : Env -> Sem Bool, ∀ env, eval (.Call (.Attribute oe name apos) es [] pos) env = (do
   let ov <- eval oe env
   standAt apos.atName
   let (f, first) <- holding [ov] (getMethod ov name (pl env))
   callWith pos f first (backTo pos (starEach es env)) (backToKw pos (keywordEach [] env))))
  (h1 : PE G X oe σ a) (h2 : GM G X a name f df σ) (hc : callable f = true) (h3 : PA G X es σ ds) (h4 : RC G X f (df ++ ds) σ r)
  (hok : ∀ v H, r = .ok (v, H) -> Φ v { σ with heap := H }) (herr : ∀ a, r = .error a -> Ψ a σ.loc) : EX G X (.Call (.Attribute oe name apos) es [] pos) Φ Ψ σ :=
 bP ok hp he (am h1 ⟨f, df, hc, h2, fun q => cQ h3 (h4 Φ Ψ hok herr)⟩)
theorem RC.ok {f v : V} {ds : List V} {H : List (Option MO)} {r : Except Int (V × List (Option MO))} (h : RC G X f ds σ r) (e : r = .ok (v, H)) (k : Φ v { σ with heap := H }) : aR G X f ds Φ Ψ σ := h Φ Ψ (fun v' H' e' => by rw [e] at e'; obtain ⟨rfl, rfl⟩ := Prod.mk.inj (Except.ok.inj e'); exact k) fun a e' => by rw [e] at e'; injection e'
theorem RC.err {f : V} {ds : List V} {a : Int} {r : Except Int (V × List (Option MO))} (h : RC G X f ds σ r) (e : r = .error a) (k : Ψ a σ.loc) : aR G X f ds Φ Ψ σ := h Φ Ψ (fun v' H' e' => by rw [e] at e'; injection e') fun a e' => by rw [e] at e'; cases e'; exact k
theorem bA {x : Str} {p pos : Pos} {es : List Expr} {f : V} {ds : List V} (o : X.Ok G) (hp : ag es = true) (h1 : PE G X (.Name x p) σ f) (hc : callable f = true) (h2 : PA G X es σ ds) (h3 : aR G X f ds Φ Ψ σ) : EX G X (.Call (.Name x p) es [] pos) Φ Ψ σ :=
 cv o hp (am h1 ⟨hc, fun q => cQ h2 h3⟩)
theorem ex_rcmk {oe : Expr} {name : Str} {apos pos : Pos} {es : List Expr} {a f : V} {df ds : List V} (ok : X.Ok G) (hp : ag es = true)
  (he : ∃ pl : Env -> Sem Bool, ∀ env, eval (.Call (.Attribute oe name apos) es [] pos) env = (do
   let ov <- eval oe env
   standAt apos.atName
   let (f, first) <- holding [ov] (getMethod ov name (pl env))
   callWith pos f first (backTo pos (starEach es env)) (backToKw pos (keywordEach [] env))))
  (h1 : PE G X oe σ a) (h2 : GM G X a name f df σ) (hc : callable f = true) (h3 : PA G X es σ ds) (h4 : aR G X f (df ++ ds) Φ Ψ σ) : EX G X (.Call (.Attribute oe name apos) es [] pos) Φ Ψ σ :=
 bP ok hp he (am h1 ⟨f, df, hc, h2, fun q => cQ h3 h4⟩)
theorem br {es : List Expr} {xs : List Str} {k : Nat} {tp pos : Pos} {e : Expr} {ts : List Stmt} (ok : X.Ok G) (hf : X.md = .fr) (hh : X.A.handled = none) (hx : namesIn es = some xs) (hs : ∀ env, swapsWithSole [.Tuple es k tp] e pos.line env = pure false) (hw : ∀ env, swappedStores [.Tuple es k tp] e env = pure none)
  (h : EX G X e (fun d σ1 => ∃ ds l', d = .tup ds /\ ds.length = xs.length /\ Puts xs ds σ1.loc l' /\ SSX G X ts ΦF Ψ { σ1 with loc := l' }) Ψ σ) : SSX G X (.Assign [.Tuple es k tp] e pos :: ts) ΦF Ψ σ :=
 ay (sx_tuple ok hf hh hx hs hw h)
theorem bb {x : Str} {xp pos : Pos} {e : Expr} {ts : List Stmt} (ok : X.Ok G) (hf : X.md = .fr) (hn : notComp e = true) (h : EX G X e (fun d σ1 => ∃ l', Put x d σ1.loc l' /\ SSX G X ts ΦF Ψ { σ1 with loc := l' }) Ψ σ) : SSX G X (.Assign [.Name x xp] e pos :: ts) ΦF Ψ σ :=
 ay (fv ok hf hn h)
theorem dU {e : Expr} {pos : Pos} {ts : List Stmt} (h : EX G X e (fun d σ1 => ΦF (.ret d) σ1) Ψ σ) : SSX G X (.Return (some e) pos :: ts) ΦF Ψ σ := ay (fu h)
theorem bI {e : Expr} {pos : Pos} {ts : List Stmt} (o : X.Ok G) (hf : X.md = .fr) (hn : notComp e = true) (h : EX G X e (fun _ σ1 => SSX G X ts ΦF Ψ σ1) Ψ σ) : SSX G X (.Expr e pos :: ts) ΦF Ψ σ :=
 ay (sx_expr (by rw [dD hf]; show (X.scope.kind == .module && _) = false; rw [o.kind]; rfl) hn h)
theorem bl (D : WordD G) {np cpos pos : Pos} {args : List Expr} {ts : List Stmt} {ds : List V} {a : Int} (o : X.Ok G) (hf : X.md = .fr) (hh : X.A.handled = none) (hr : 3 <= X.room) (hp : ag args = true) (hw : HasG "WordFault" (.glob "WordFault") σ.glb)
  (h1 : PA G X args σ ds) (h2 : ∃ w, ds = [w, .int a] \/ (ds = [w] /\ a = -1)) (h3 : Ψ a σ.loc) : SSX G X (.Raise (some (.Call (.Name "WordFault" np) args [] cpos)) none pos :: ts) ΦF Ψ σ :=
 ay (sx_raise D o hf hh hr hp hw fun q => cQ h1 (let ⟨w, e⟩ := h2; ⟨w, a, e, h3⟩))
theorem ja {bs : List (List UInt8)} {i : Nat} (hi : σ.heap[i]? = some (some (.list (bs.map .bytes)))) (hz : bs.flatten.length <= 1000000) (h : Φ (.bytes bs.flatten) σ) : aR G X (.val (.builtin "bytes.join")) [.bytes [], .loc i] Φ Ψ σ := by
 intro W vf vs rf rs s R
 cases rf.inv
 cases rs.inv with
 | cons r1 rs => cases rs.inv with
  | cons r2 rs =>
   cases rs.inv
   generalize he : ([] : List UInt8) = e0 at r1
   cases r1.inv with
   | bytes b' t =>
    have hb' : b' = #[] := Array.ext' (by simp [<- he])
    subst hb'
    obtain ⟨a, vs, n, rfl, rs, ho, -⟩ := bW R hi r2
    refine wpAny_call_entry slot_join (typeIs_bytes s _ t) entry_join (jw (iQ rs) ho hz fun t' tk => ?_) (iX _ _)
    exact ⟨_, rfl, W, _, σ, .rfl, .bytes _ _, R.tok, h⟩
theorem pc_joinb {ds : List V} {bs : List (List UInt8)} (e : ds = bs.map .bytes) (o : X.Ok G) (hz : bs.flatten.length <= 1000000) : PC G X (.val (.builtin "bytes.join")) [.bytes [], .lst ds] σ (.bytes bs.flatten) := by subst e; exact kz o hz ⟨rfl, rfl⟩
theorem pc_joinbl {bs : List (List UInt8)} {i : Nat} (hi : σ.heap[i]? = some (some (.list (bs.map .bytes)))) (hz : bs.flatten.length <= 1000000) : PC G X (.val (.builtin "bytes.join")) [.bytes [], .loc i] σ (.bytes bs.flatten) := ja hi hz ⟨rfl, rfl⟩
theorem pc_joinl {sep : List Nat} {bs : List (List Nat)} {i : Nat} (hi : σ.heap[i]? = some (some (.list (bs.map .str)))) (hs : sep.length <= 10) (hn : bs.length <= 100000) (hz : bs.flatten.length <= 1000000) : PC G X (.val (.builtin "str.join")) [.str sep, .loc i] σ (.str (aX sep bs)) := jH hi hs hn hz ⟨rfl, rfl⟩
theorem cY {oe ae : Expr} {apos pos : Pos} {i : Nat} {ds : List V} {d : V} (o : X.Ok G) (hp : ag [ae] = true)
  (he : ∃ pl : Env -> Sem Bool, ∀ env, eval (.Call (.Attribute oe "append" apos) [ae] [] pos) env = (do
   let ov <- eval oe env
   standAt apos.atName
   let (f, first) <- holding [ov] (getMethod ov "append" (pl env))
   callWith pos f first (backTo pos (starEach [ae] env)) (backToKw pos (keywordEach [] env))))
  (h1 : PE G X oe σ (.loc i)) (h2 : PE G X ae σ d) (hi : σ.heap[i]? = some (some (.list ds))) (hz : ds.length <= 1000000) (h : Φ .none { σ with heap := σ.heap.set i (some (.list (ds ++ [d]))) }) : EX G X (.Call (.Attribute oe "append" apos) [ae] [] pos) Φ Ψ σ :=
 bP o hp he (am h1 ⟨_, _, rfl, iy hi, fun q => cQ (ah (by simp [ag] at hp; exact hp) h2 pa_nil) (gh hi hz h)⟩)
theorem cG {es : List Expr} {pos : Pos} {ds : List V} (h : PA G X es σ ds) (hl : ds.length <= 1000) (k : Φ (.loc σ.heap.length) { σ with heap := σ.heap ++ [some (.list ds)] }) : EX G X (.List es pos) Φ Ψ σ := ex_list fun q => cQ h ⟨hl, k⟩
theorem WordD.gls (D : WordD G) : Gl G "WordFault" (.glob "WordFault") := ⟨_, .inl D.gl, fun W => .glob D.gl D.keep⟩
end
theorem ao {n : Nat} {H : List (Option MO)} {i : Nat} {mo : MO} (h : af n H = true) (hm : mo.closed n = true) : af n (H.set i (some mo)) = true := by
 unfold af at h ⊢
 rw [List.all_eq_true] at h ⊢
 intro x hx
 rcases List.mem_or_eq_of_mem_set hx with hx | rfl
 ·exact h x hx
 ·exact hm
section
variable {G : Gx} {X : Fx} {σ : St} {W : Wd} {Ψ : Ps} {s : Shared} {Φ : V -> St -> Prop} {ΦB : Bool -> St -> Prop} {ΦF : Fl -> St -> Prop}
theorem fy {c m q : Str} {D : Df} (names others : List Str) {ds : List V} (glb : List (Str × V)) {v : V} (o : X.Ok G) (hr : 1 <= X.room) (fn : MthG G c m q D)
  (dk : DefOk m q D names others ds.length glb) (hg : Gls G glb) (hv : v.closed σ.heap.length = true)
  (hbody : ∀ X', X'.Ok G -> X'.md = .fr -> X'.A.handled = X.A.handled -> X'.room = X.room - 1 -> SSX G X' D.body (fun fl σ' => fl = .ret v /\ σ'.heap = σ.heap) noPs ⟨mkLoc names ds others, glb, σ.heap⟩) :
  PC G X (.meth c m) ds σ v := by
 refine iP (Ψ := noPs) o hr fn (.inr fun a h => h) dk hg fun X' o' hmd hh hr' hsc hcl => ?_
 refine bk (hbody X' o' hmd hh hr') fun fl σ' yy => ?_
 obtain ⟨e1, e2⟩ := yy
 subst e1
 exact gw hv hcl e2 ⟨rfl, rfl⟩
theorem pga_inst {i : Nat} {c q name : Str} {D : Df} {l : List Str} {fs : List (Str × V)} {d : V} (o : X.Ok G) (hc : ClsG G c q D l) (hn : name ∈ l) (hi : σ.heap[i]? = some (some (.inst c fs))) (hd : getF name fs = some d) (hp : plainV d = true) : PGA G X (.loc i) name σ d := ga_inst o hc hn hi hd hp ⟨rfl, rfl⟩
theorem bZ {oe e : Expr} {name c q : Str} {D : Df} {l : List Str} {p2 pos : Pos} {ts : List Stmt} {i : Nat} {fs : List (Str × V)} {d : V} (o : X.Ok G) (hn : notComp e = true) (hc : ClsG G c q D l) (hl : name ∈ l)
  (h1 : PE G X e σ d) (h2 : PE G X oe σ (.loc i)) (hi : σ.heap[i]? = some (some (.inst c fs))) (hz : fs.length <= 100) (k : SSX G X ts ΦF Ψ { σ with heap := σ.heap.set i (some (.inst c (putF name d fs))) }) :
  SSX G X (.Assign [.Attribute oe name p2] e pos :: ts) ΦF Ψ σ :=
 ay (gI o hn hc hl (am h1 (am h2 ⟨i, fs, rfl, hi, hz, k⟩)))
theorem ss_setx {oe e : Expr} {name c q : Str} {D : Df} {l : List Str} {p2 pos : Pos} {ts : List Stmt} (o : X.Ok G) (hn : notComp e = true) (hc : ClsG G c q D l) (hl : name ∈ l)
  (h : EX G X e (fun d σ1 => ∃ i fs, PE G X oe σ1 (.loc i) /\ σ1.heap[i]? = some (some (.inst c fs)) /\ fs.length <= 100 /\ SSX G X ts ΦF Ψ { σ1 with heap := σ1.heap.set i (some (.inst c (putF name d fs))) }) Ψ σ) :
  SSX G X (.Assign [.Attribute oe name p2] e pos :: ts) ΦF Ψ σ := by
 refine ay (gI o hn hc hl ?_)
 intro W s R
 refine wpAny_mono (h W s R) (fun v s_1 y => y.mono .rfl fun d σ1 yy => ?_) fun _ _ y => y
 obtain ⟨i, fs, h2, hi, hz, k⟩ := yy
 exact am h2 ⟨i, fs, rfl, hi, hz, k⟩
end
section
variable {G : Gx} {X : Fx} {σ : St} {W : Wd} {Ψ : Ps} {s : Shared} {Φ : V -> St -> Prop} {ΦB : Bool -> St -> Prop} {ΦF : Fl -> St -> Prop}
theorem obj_at {c : Str} {fs : List (Str × V)} {va : Value} (o : X.Ok G) (R : RelS G X W σ s) (ra : RV G.P G.K W va (.obj c fs)) :
  ∃ x dx C es n, va = .ref x /\ nsIn G.K mainGlobals c = some (some (.ref C)) /\ RFs G.P G.K W es fs /\ InstAt s.heap x (instObj C dx) C (some (dictOf es n)) := by
 cases ra.inv with
 | @obj x dx C es n hc h h' hs => exact ⟨x, dx, C, es, n, rfl, hc, hs, R.known o h, rfl, rfl, R.known o h'⟩
theorem pga_obj {c q name : Str} {D : Df} {l : List Str} {fs : List (Str × V)} {d : V} (o : X.Ok G) (hc : ClsG G c q D l) (hn : name ∈ l) (hd : getF name fs = some d) (hp : plainV d = true) : PGA G X (.obj c fs) name σ d := by
 intro W va ra s R
 obtain ⟨x, dx, C, es, n, rfl, hC, rs, I⟩ := obj_at o R ra
 obtain ⟨C', fI, c1, c2, c3, c4, c5, c6, c7, c8, c9, c10, c11⟩ := hc
 rw [hC] at c1; cases c1
 obtain ⟨v, hv, rv⟩ := rs.look hd
 have R' := R
 obtain ⟨⟨m, M, Q⟩, _⟩ := R'
 exact get_own (F := Q.fr) o.kin I c7 c8 (c11 name hn).2 rfl hv (ix rv hp) ⟨W, d, σ, .rfl, rv, R.tok, rfl, rfl⟩
theorem gm_obj {c q name mq : Str} {D Dm : Df} {l : List Str} {fs : List (Str × V)} (o : X.Ok G) (hc : ClsG G c q D l) (hm : MthG G c name mq Dm) (hd : getF name fs = none) : GM G X (.obj c fs) name (.meth c name) [.obj c fs] σ := by
 intro W va ra s R pl Q E k
 obtain ⟨x, dx, C, es, n, rfl, hC, rs, I⟩ := obj_at o R ra
 obtain ⟨C', fI, c1, c2, c3, c4, c5, c6, c7, c8, c9, c10, c11⟩ := hc
 obtain ⟨C2, f, m1, m2, m3, m4, hfn⟩ := hm
 rw [hC] at c1 m1; cases c1; cases m1
 have R' := R
 obtain ⟨⟨m, M, QQ⟩, _⟩ := R'
 exact method_inst (F := QQ.fr) o.kin I c7 m2 hfn (rs.look0 hd) (k _ _ (.meth hC m2 m4) (.cons ra .nil))
theorem tx_rc {e : Expr} {Φ' : Bool -> St -> Prop} (hp : plainTest e = true) (h : EX G X e (fun a σ1 => ∃ c, a = .bool c /\ Φ' c σ1) Ψ σ) : TX G X e Φ' Ψ σ := by
 refine jc hp ?_
 intro W s R
 refine wpAny_mono (h W s R) (fun v s_1 y => y.mono .rfl fun d σ1 yy => ?_) fun _ _ y => y
 obtain ⟨c, e, h⟩ := yy
 subst e
 exact bf h
theorem gn {t : Expr} {b e : List Stmt} {pos : Pos} {ts : List Stmt} (h : TX G X t (fun c σ1 => (c = true -> SSX G X b (fun f σ2 => match f with | .next => SSX G X ts ΦF Ψ σ2 | f => ΦF f σ2) Ψ σ1) /\ (c = false -> SSX G X e (fun f σ2 => match f with | .next => SSX G X ts ΦF Ψ σ2 | f => ΦF f σ2) Ψ σ1)) Ψ σ) : SSX G X (.If t b e pos :: ts) ΦF Ψ σ := ay (sx_if h)
theorem ex_idx {o i : Expr} {pos : Pos} {k : Int} (ok : X.Ok G) (hi : ∀ σ, PE G X i σ (.int k)) (h0 : 0 <= k) (h : EX G X o (fun a σ1 => ∃ ds d, a = .tup ds /\ ds.length <= 1000 /\ ds[k.toNat]? = some d /\ Φ d σ1) Ψ σ) : EX G X (.Subscript o i pos) Φ Ψ σ := by
 refine dL ?_
 intro W s R
 refine wpAny_mono (h W s R) (fun v s_1 y => y.mono .rfl fun a σ1 yy => ?_) fun _ _ y => y
 obtain ⟨ds, d, e, hl, hd, hΦ⟩ := yy
 subst e
 exact am (hi σ1) (ga ok h0 (Om.hi hl) hd hΦ)
end
theorem gb {H : List (Option MO)} {i : Nat} {x : Option MO} (h : i < H.length) : (H.set i x)[i]? = some x := by simp [h]
theorem dX {H : List (Option MO)} {i : Nat} {x y : Option MO} : (H.set i x).set i y = H.set i y := by simp
theorem il {H : List (Option MO)} {i : Nat} {x : Option MO} (h : H[i]? = some x) : i < H.length := (List.getElem?_eq_some_iff.mp h).1
mutual
theorem V.closed_mono {n m : Nat} (h : n <= m) : ∀ d : V, d.closed n = true -> d.closed m = true
 | .loc i, c => decide_eq_true (Nat.lt_of_lt_of_le (of_decide_eq_true c) h)
 | .tup l, c => V.closeds_mono h l c
 | .lst l, c => V.closeds_mono h l c
 | .dict l, c => V.closedk_mono h l c
 | .obj _ l, c => V.closedf_mono h l c
 | .none, _ => rfl
 | .bool _, _ => rfl
 | .int _, _ => rfl
 | .str _, _ => rfl
 | .bytes _, _ => rfl
 | .rng _ _, _ => rfl
 | .glob _, _ => rfl
 | .meth _ _, _ => rfl
 | .exn _, _ => rfl
 | .val _, _ => rfl
theorem V.closeds_mono {n m : Nat} (h : n <= m) : ∀ l : List V, V.closeds n l = true -> V.closeds m l = true
 | [], _ => rfl
 | d :: r, c => by
  have c := Bool.and_eq_true_iff.mp c
  exact Bool.and_eq_true_iff.mpr ⟨V.closed_mono h d c.1, V.closeds_mono h r c.2⟩
theorem V.closedk_mono {n m : Nat} (h : n <= m) : ∀ l : List (List Nat × V), V.closedk n l = true -> V.closedk m l = true
 | [], _ => rfl
 | (_, d) :: r, c => by
  have c := Bool.and_eq_true_iff.mp c
  exact Bool.and_eq_true_iff.mpr ⟨V.closed_mono h d c.1, V.closedk_mono h r c.2⟩
theorem V.closedf_mono {n m : Nat} (h : n <= m) : ∀ l : List (Str × V), V.closedf n l = true -> V.closedf m l = true
 | [], _ => rfl
 | (_, d) :: r, c => by
  have c := Bool.and_eq_true_iff.mp c
  exact Bool.and_eq_true_iff.mpr ⟨V.closed_mono h d c.1, V.closedf_mono h r c.2⟩
end
theorem iw {n m : Nat} (h : n <= m) {H : List (Option MO)} (c : af n H = true) : af m H = true := by
 unfold af at c ⊢
 rw [List.all_eq_true] at c ⊢
 intro x hx
 have := c x hx
 cases x with
 | none => rfl
 | some o =>
  cases o with
  | list l => exact V.closeds_mono h l this
  | inst cc fs => exact V.closedf_mono h fs this
theorem iu {H : List (Option MO)} {mo : MO} (c : af H.length H = true) (hm : mo.closed (H.length + 1) = true) : af (H.length + 1) (H ++ [some mo]) = true := by
 have := iw (Nat.le_succ H.length) c
 unfold af at this ⊢
 rw [List.all_append, this]
 simpa using hm
section
variable {G : Gx} {X : Fx} {σ : St} {W : Wd} {Ψ : Ps} {s : Shared} {Φ : V -> St -> Prop} {ΦB : Bool -> St -> Prop} {ΦF : Fl -> St -> Prop}
inductive PPost (σ : St) (P : V -> List (Option MO) -> Prop) (fl : Fl) (σ' : St) : Prop
 | mk (v : V) (H : List (Option MO)) (k : Nat) (h0 : retV fl = some v) (h1 : P v H) (h3 : σ.heap.length <= k) (h4 : σ'.heap.take k = H) (h5 : v.closed k = true) (h6 : af k H = true)
noncomputable def RP (G : Gx) (X : Fx) (f : V) (ds : List V) (σ : St) (P : V -> List (Option MO) -> Prop) : Prop :=
 ∀ (Φ : V -> St -> Prop) (Ψ : Ps), (∀ v H, P v H -> Φ v { σ with heap := H }) -> aR G X f ds Φ Ψ σ
theorem rdefP {x : Str} {D : Df} (names others : List Str) {ds : List V} (glb : List (Str × V)) {P : V -> List (Option MO) -> Prop} (o : X.Ok G) (hf : X.md = .fr) (hr : 1 <= X.room) (fn : FnG G x D)
  (dk : DefOk x x D names others ds.length glb) (hg : Gls G glb)
  (hbody : ∀ X', X'.Ok G -> X'.md = .fr -> X'.A.handled = X.A.handled -> X'.room = X.room - 1 -> X'.scope = D.scope -> af σ.heap.length σ.heap = true ->
   SSX G X' D.body (PPost σ P) noPs ⟨mkLoc names ds others, glb, σ.heap⟩) :
  RP G X (.glob x) ds σ P := by
 intro Φ Ψ h1
 refine dN (Ψ := Ψ) o hr fn (.inl hf) dk hg fun X' o' hmd hh hr' hsc hcl => ?_
 intro W s R
 refine wpAny_mono (hbody X' o' hmd hh hr' hsc hcl W s R) (fun _ _ y => y.mono .rfl fun fl σ' yy => ?_) fun _ _ y => (cx y).elim
 obtain ⟨v, H, k, e0, e2, hk, e3, e4, e5⟩ := yy
 exact ⟨v, e0, k, hk, by rw [e3]; exact e5, e4, by rw [e3]; exact h1 v H e2⟩
theorem ex_rp {x : Str} {p pos : Pos} {es : List Expr} {f : V} {ds : List V} {P : V -> List (Option MO) -> Prop} (o : X.Ok G) (hp : ag es = true) (h1 : PE G X (.Name x p) σ f) (hc : callable f = true) (h2 : PA G X es σ ds) (h3 : RP G X f ds σ P)
  (hok : ∀ v H, P v H -> Φ v { σ with heap := H }) : EX G X (.Call (.Name x p) es [] pos) Φ Ψ σ :=
 cv o hp (am h1 ⟨hc, fun q => cQ h2 (h3 Φ Ψ hok)⟩)
theorem tru_lst {ds : List V} (o : X.Ok G) (hz : ds.length <= 1000000) (h : ΦB (!ds.isEmpty) σ) : TRU G X (.lst ds) ΦB Ψ σ := by
 intro W x rx s R
 obtain ⟨a, vs, rfl, hl, rs⟩ := aH o R rx
 have hlen := rs.length
 refine wpAny_truthy_list hl (by rw [List.size_toArray]; exact (Om.q 2 0 .f56) _ _ hz hlen) ⟨W, σ, .rfl, R.tok, ?_⟩
 have : vs.toArray.isEmpty = ds.isEmpty := by
  cases rs <;> rfl
 rw [this]; exact h
theorem pr_lst {ds : List V} (o : X.Ok G) (hz : ds.length <= 1000000) : PR G X (.lst ds) σ (!ds.isEmpty) := tru_lst o hz ⟨rfl, rfl⟩
theorem ss_ifP {t : Expr} {b e : List Stmt} {pos : Pos} {ts : List Stmt} {c : Bool} (P : St -> Prop) (p : PT G X t σ c) (h1 : c = true -> SSX G X b (fun f σ1 => f = .next /\ P σ1) Ψ σ) (h2 : c = false -> SSX G X e (fun f σ1 => f = .next /\ P σ1) Ψ σ) (k : ∀ τ, P τ -> SSX G X ts ΦF Ψ τ) : SSX G X (.If t b e pos :: ts) ΦF Ψ σ :=
 az p (fun hc => bk (h1 hc) fun f σ1 ⟨e1, e2⟩ => by subst e1; exact k σ1 e2) (fun hc => bk (h2 hc) fun f σ1 ⟨e1, e2⟩ => by subst e1; exact k σ1 e2)
theorem ss_ifxP {t : Expr} {b e : List Stmt} {pos : Pos} {ts : List Stmt} (P : St -> Prop) (p : TX G X t (fun c σ1 => (c = true -> SSX G X b (fun f σ1 => f = .next /\ P σ1) Ψ σ1) /\ (c = false -> SSX G X e (fun f σ1 => f = .next /\ P σ1) Ψ σ1)) Ψ σ) (k : ∀ τ, P τ -> SSX G X ts ΦF Ψ τ) : SSX G X (.If t b e pos :: ts) ΦF Ψ σ := by
 refine gn ?_
 intro W s R
 refine wpAny_mono (p W s R) (fun c s_1 y => y.mono .rfl fun c σ1 ⟨h1, h2⟩ => ⟨fun hc => bk (h1 hc) fun f σ2 ⟨e1, e2⟩ => by subst e1; exact k σ2 e2, fun hc => bk (h2 hc) fun f σ2 ⟨e1, e2⟩ => by subst e1; exact k σ2 e2⟩) fun _ _ y => y
end
theorem forIn_idx {M : Model} {A : Around} {E : Value -> Shared -> Prop} {s : Shared} {α β : Type} (f : α -> β -> Sem (ForInStep β)) {Q : β -> Shared -> Prop} {hit : α} {b : β} {r : β} : ∀ {l : List α} (pre post : List α), l = pre ++ hit :: post ->
  (∀ a ∈ pre, ∀ Q', Q' (ForInStep.yield b) s -> wpAny M A (f a b) Q' E s) -> wpAny M A (f hit b) (fun x s_1 => x = .done r /\ Q r s_1) E s -> wpAny M A (forIn l b f) Q E s := by
 intro l pre post e h1 h2
 subst e
 induction pre with
 | nil =>
  rw [List.nil_append, List.forIn_cons]
  refine wpAny_bind (wpAny_mono h2 (fun x s_1 yy => ?_) fun _ _ y => y)
  obtain ⟨e, h⟩ := yy
  subst e
  exact wpAny_pure h
 | cons a pre ih =>
  rw [List.cons_append, List.forIn_cons]
  exact wpAny_bind (h1 a (.head _) _ (ih fun a ha => h1 a (.tail _ ha)))
theorem j9 {j n : Nat} (h : j < n) : List.range' 0 n = List.range' 0 j ++ j :: List.range' (j + 1) (n - j - 1) := by
 have : n = j + (1 + (n - j - 1)) := by exact (Om.q 4 0 (.i (.t .x3 .x2) (.i (.o (.a (.l .x3 .x2) (.e (.a .x0 .x3) .x2)) (.a (.t .x2 .x3) (.e .x0 .k0))) (.i (.o (.a (.l .k1 .x0) (.e (.a .x1 .k1) .x0)) (.a (.t .x0 .k1) (.e .x1 .k0))) (.e .x2 (.a .x3 (.a .k1 .x1))))))) _ _ (Nat.sub _ _) (Nat.sub _ _) h (by exact (Om.sbo _ _)) (by exact (Om.sbo _ _))
 rw [this, <- List.range'_append_1, <- List.range'_append_1]
 simp
theorem j6 (l : Addr) (items : Array Value) (n : Nat) (dd : Option Addr) (sl : Array (Option Value)) (x : Value) (e : Value -> Bool) (j : Nat) (hj : j < items.size)
  (hit : e items[j] = true) (hno : ∀ m (hm : m < items.size), m < j -> e items[m] = false) :
  Meets (Builtin.«tuple.index» ⟨[.ref l, x], []⟩)
   (fun A R s => s.heap.get? l = some { cls := .type "tuple", dict := dd, data := .seq items n, slots := sl } /\ (∀ y, y ∈ items -> SeqAt.EqAt A.in1 s y x (e y)) /\ R (.ok (.ret (.int j s.toks))) { s with toks := s.toks + 1 }) := by
 intro prog w A R s h
 obtain ⟨hp, g, d, tk, os⟩ := s; obtain ⟨hl, he, h⟩ := h
 wp_walk using wpAny_loadPart' hl
 show wpAny _ _ (forIn ([:min items.size items.size] : Std.Legacy.Range) (none, ()) _) _ _ _
 rw [Std.Legacy.Range.forIn_eq_forIn_range']
 have hz : ([:min items.size items.size] : Std.Legacy.Range).size = items.size := by simp [Std.Legacy.Range.size]
 rw [hz]
 show wpAny _ _ (forIn (List.range' 0 items.size) (none, ()) _) _ _ _
 have hgo : ∀ i (hi : i < items.size), items[i]? = some items[i] := fun i hi => by simp [hi]
 refine forIn_idx _ (r := (some (.done (.ret (.int j tk))), ())) (List.range' 0 j) (List.range' (j + 1) (items.size - j - 1)) (j9 hj) ?_ ?_
 ·intro a ha Q' hq
  have ha' : a < j := by simpa using ha
  have hlt : a < items.size := by exact (Om.q 4 0 (.i (.t .x3 .x2) (.i (.e .x1 .x2) (.i (.t .x0 .x3) (.t .x0 .x2))))) _ _ _ _ hj hz ha'
  rw [hgo a hlt]
  refine wpAny_bind (he _ (Array.getElem_mem hlt) prog w _ _ ?_)
  rw [hno a hlt ha']
  exact wpAny_pure hq
 ·rw [hgo j hj]
  refine wpAny_bind (he _ (Array.getElem_mem hj) prog w _ _ ?_)
  rw [hit]
  wp_walk
  exact ⟨rfl, wpAny_pure h⟩
section
variable {G : Gx} {X : Fx} {σ : St} {Ψ : Ps} {Φ : V -> St -> Prop}
theorem kH {ds : List V} {W : Wd} {s : Shared} {v : Value} (o : X.Ok G) (R : RelS G X W σ s) (r : RV G.P G.K W v (.tup ds)) : ∀ a, v = .ref a -> ∃ o, s.heap.get? a = some o /\ o.dict = none := by
 cases r.inv with
 | tup hk hs => intro a e; cases e; exact ⟨_, R.known o hk, rfl⟩
theorem tup_obj {ds : List V} {W : Wd} {s : Shared} {v : Value} (o : X.Ok G) (R : RelS G X W σ s) (r : RV G.P G.K W v (.tup ds)) : ∃ a vs d n sl, v = .ref a /\ s.heap.get? a = some (aA "tuple" d vs n sl) /\ RVs G.P G.K W vs ds := by
 cases r.inv with
 | tup hk hs => exact ⟨_, _, _, _, _, rfl, R.known o hk, hs⟩
theorem gm_indext {ds : List V} (o : X.Ok G) : GM G X (.tup ds) "index" (.val (.builtin "tuple.index")) [.tup ds] σ := by
 intro W va ra s R pl Q E k
 obtain ⟨a, vs, rfl, hl, rs⟩ := bo o R ra
 exact getMethod_builtin hl.typeIs PySem.F.plainAttrs_tuple PySem.F.slot_tuple_index PySem.F.type_tuple_index (kH o R ra) (k _ _ (.val _) (.cons ra .nil))
theorem jI {k : List Nat} {bs : List (List Nat)} {j : Nat} (o : X.Ok G) (hz : bs.length <= 100000) (hj : bs[j]? = some k) (hno : ∀ i, i < j -> bs[i]? ≠ some k) (h : Φ (.int j) σ) : aR G X (.val (.builtin "tuple.index")) [.tup (bs.map .str), .str k] Φ Ψ σ := by
 intro W vf vs rf rs s R
 cases rf.inv
 cases rs.inv with
 | cons r1 rs => cases rs.inv with
  | cons r2 rs =>
   cases rs.inv
   cases r2.inv with
   | str x t =>
    obtain ⟨a, vs, d, n, sl, rfl, ho, rs⟩ := tup_obj o R r1
    have hi := strs_of rs
    have hlen : vs.length = bs.length := by have := rs.length; simpa using this
    have hjl := (List.getElem?_eq_some_iff.mp hj).1
    have ex : x = ⟨x.cps.toList.toArray⟩ := bc rfl
    refine call_meets PySem.F.slot_tuple_index ⟨_, ho, rfl⟩ PySem.F.entry_tuple_index (PySem.F.args_tuple_index_2 _ _)
     (j6 a vs.toArray n d sl (.str x t) (isStrOf x) j (by simp; exact (Om.q 3 0 (.i (.e .x2 .x1) (.i (.t .x0 .x1) (.t .x0 .x2)))) _ _ _ hlen hjl) ?_ ?_) ⟨ho, fun y hy => (eq_isStrOf x t hi y (by simpa using hy)).at _ _, ⟨W, _, σ, .rfl, .int _ _, R.tok, h⟩⟩
    ·have := idx_strs hi x.cps.toList (i := j) (v := vs[j]'(by omega)) (by rw [List.getElem?_eq_getElem])
     rw [<- ex, hj] at this
     simpa using this
    ·intro m hm hmj
     have hm' : m < vs.length := by simpa using hm
     have := idx_strs hi x.cps.toList (i := m) (v := vs[m]'hm') (by rw [List.getElem?_eq_getElem])
     rw [<- ex] at this
     simp only [List.getElem_toArray]
     rw [this]
     exact decide_eq_false (hno m hmj)
theorem pc_indext {ds : List V} {k : List Nat} {bs : List (List Nat)} {j : Nat} (o : X.Ok G) (e : strsOf ds = some bs) (hz : bs.length <= 100000) (hj : bs[j]? = some k) (hno : ∀ i, i < j -> bs[i]? ≠ some k) : PC G X (.val (.builtin "tuple.index")) [.tup ds, .str k] σ (.int j) := by
 rw [strsOf_eq e]
 exact jI o hz hj hno ⟨rfl, rfl⟩
end
theorem slot_exc_ga : Slot "Exception" "__getattribute__" "BaseException.__getattribute__" := .of (owner := "BaseException") (n := "__getattribute__") (by rw [typeLookup_type, builtinLookup_eq_fast]; kernel_rfl) (by decide +kernel) (by decide +kernel) (by decide +kernel)
  (by first | exact .inl (by decide +kernel) | exact .inr (by decide +kernel)) (by rw [isSubtype_type]; kernel_rfl)
section
variable {prog : Program} {w : World} {A : Around} {E : Value -> Shared -> Prop} {s : Shared} {K : Frag} {x C : Addr} {ox : Obj} {od : Option Obj} {name : Str} {expr : Bool} {Q : Value -> Shared -> Prop}
theorem get_exc {v : Value} (X : K.In s.heap) (I : InstAt s.heap x ox C od) (hga : findIn K (.ref C) "__getattribute__" = some (some (.builtin "BaseException.__getattribute__"))) (hgt : findIn K (.ref C) "__getattr__" = some none) (hsub : subIn K (.ref C) (.type "BaseException") = some true)
  (hf : findObj K C od name = some (.value v)) (hh : handedIn v = true) (h : Q v { s with toks := s.toks + 1 }) : wpAny (model prog w) A (getAttr (.ref x) name expr) Q E s := by
 obtain ⟨hp, g, d, t, os⟩ := s
 have L0 := I.type (M := model prog w)
 have L1 := looks_findIn (M := model prog w) X hga
 have L2 := looks_findIn (M := model prog w) X hgt
 have L3 := looks_find (M := model prog w) X I hf
 have L4 := looks_subIn (M := model prog w) X hsub
 have hx2 : (Value.builtin "BaseException.__getattribute__" == Value.builtin "object.__getattribute__") = false := by decide +kernel
 have hx0 : (expr && onTheHeap (Value.builtin "BaseException.__getattribute__")) = false := by cases expr <;> rfl
 unfold getAttr getAttrBy
 refine wpAny_bind (wpAny_mkText (wpAny_holding (wpAny_bind (L0.at (wpAny_bind (L1.at ?_))))))
 dsimp only
 rw [hx2, Bool.and_false, if_neg (by decide)]
 unfold getAttrByItsOwn hookBefore
 rw [if_pos (by rfl)]
 refine wpAny_bind (L2.at ?_)
 unfold callGetattribute
 rw [hx0, if_neg (by decide)]
 unfold boundAndCalled
 rw [slot_exc_ga.bind]
 have L5 : Looks (model prog w) hp (isInstance (.ref x) (.type "BaseException")) true := L0.andThen L4
 have ha := F.args_bexc_ga (.ref x) (.str name t)
 have hk : builtinKind "BaseException.__getattribute__" = some .slot := by decide +kernel
 have hsplit : splitId "BaseException.__getattribute__" = some ("BaseException", "__getattribute__") := by decide +kernel
 refine wpAny_bind (wpAny_attempt (wpAny_holding (wpAny_bind (wpAny_pure (wpAny_call (codeAny_call_builtin (by decide +kernel) F.entry_bexc_ga ?_))))))
 simp only [checkBuiltinCall, hk, hsplit, List.cons_append, List.nil_append]
 refine wpAny_bind (L5.at ?_)
 simp only [Bool.not_true, Bool.false_eq_true, if_false]
 have end_ : wpAny (model prog w) A.in1 (Builtin.«object.__getattribute__» { pos := [Value.ref x, Value.str name t] })
   (fun fin s' => match fin with | .done f => (match (Except.ok f : Result) with | .ok (.ret v) => wpAny (model prog w) A (handedOut v) Q E s' | _ => False) | .again c' => False) (fun _ _ => False) ⟨hp, g, d, t + 1, os⟩ := by
  unfold Builtin.«object.__getattribute__»
  refine wpAny_bind (wpAny_pure (wpAny_bind (wpAny_pure (wpAny_bind (L0.at (wpAny_bind (L3.at ?_)))))))
  refine wpAny_pure ?_
  show wpAny _ _ (handedOut v) _ _ _
  rw [handedOut_of hh]; exact wpAny_pure h
 have go : ∀ {T : Sem Unit} {R : Result -> Shared -> Prop} {E' : Value -> Shared -> Prop}, T = pure () -> (∀ f s', (match (Except.ok f : Result) with | .ok (.ret v) => wpAny (model prog w) A (handedOut v) Q E s' | _ => False) -> R (.ok f) s') ->
   wpAny (model prog w) A.in1 T (fun _ s_1 => wpAny (model prog w) A.in1 (Builtin.«object.__getattribute__» { pos := [Value.ref x, Value.str name t] })
    (fun fin s' => match fin with | .done f => R (.ok f) s' | .again c' => c'.quiet = true /\ codeAny (model prog w) A c' R s') (fun e s' => R (.error e) s') s_1) E' ⟨hp, g, d, t + 1, os⟩ := by
  intro T R E' hT hR
  rw [hT]
  refine wpAny_pure (wpAny_mono end_ (fun fin s' z => ?_) fun _ _ z => z.elim)
  cases fin with
  | done f => exact hR f s' z
  | again c => exact z.elim
 cases hsig : Manifest.signature? "BaseException.__getattribute__" with
 | none => exact go (R := fun r s' => match r with | .ok (.ret v) => wpAny (model prog w) A (handedOut v) Q E s' | .ok _ => False | .error e => wpAny (model prog w) A (getattributeRaised (.ref x) (.str name t) (.ref C) e none true expr) Q E s') rfl fun f s' z => by cases f <;> exact z
 | some sig =>
  simp only [argsOk, hsig] at ha
  have h2 : Bind.checkArgs "BaseException.__getattribute__" sig ⟨[.ref x, .str name t], []⟩ = pure () := ha
  exact go (R := fun r s' => match r with | .ok (.ret v) => wpAny (model prog w) A (handedOut v) Q E s' | .ok _ => False | .error e => wpAny (model prog w) A (getattributeRaised (.ref x) (.str name t) (.ref C) e none true expr) Q E s') h2 fun f s' z => by cases f <;> exact z
end
noncomputable def SSZ (G : Gx) (X : Fx) (ts : List Stmt) (ΦF : Fl -> St -> Prop) (σ : St) : Prop := ∀ W s, RelS G X W σ s -> wpAny G.M X.A (execs ts X.env) (fun f s_1 => ∃ W' fl σ', RFl G W' f fl /\ RelS G X W' σ' s_1 /\ ΦF fl σ') (EE G X noPs) s
noncomputable def imm : V -> Bool
 | .none => true
 | .bool _ => true
 | .int _ => true
 | .bytes _ => true
 | _ => false
noncomputable def immL (l : List (Str × Option V)) : List (Str × Option V) := l.map fun p => (p.1, p.2.bind fun d => if imm d = true then some d else none)
noncomputable def gf (n : Str) (l : List (Str × Option V)) : List (Str × Option V) := l.map fun p => if p.1 = n then (p.1, none) else p
theorem ir (l : List (Str × Option V)) : (immL l).map (·.1) = l.map (·.1) := by unfold immL; rw [List.map_map]; rfl
theorem gP (n : Str) (l : List (Str × Option V)) : (gf n l).map (·.1) = l.map (·.1) := by
 unfold gf; rw [List.map_map]
 refine List.map_congr_left fun p _ => ?_
 dsimp only [Function.comp]
 split <;> rfl
theorem immL_mem {l : List (Str × Option V)} {x : Str} {d : V} (h : (x, some d) ∈ immL l) : (x, some d) ∈ l /\ imm d = true := by
 obtain ⟨⟨y, u⟩, hp, e⟩ := List.mem_map.mp h
 cases u with
 | none => simp at e
 | some u =>
  by_cases hu : imm u = true
  ·simp [hu] at e; obtain ⟨rfl, rfl⟩ := e; exact ⟨hp, hu⟩
  ·simp [hu] at e
theorem dropL_mem {n : Str} {l : List (Str × Option V)} {x : Str} {d : V} (h : (x, some d) ∈ gf n l) : (x, some d) ∈ l /\ x ≠ n := by
 obtain ⟨⟨y, u⟩, hp, e⟩ := List.mem_map.mp h
 by_cases hy : y = n
 ·simp [hy] at e
 ·simp [hy] at e; obtain ⟨rfl, rfl⟩ := e; exact ⟨hp, hy⟩
section
variable {G : Gx} {X : Fx} {σ : St} {Ψ : Ps} {Φ : V -> St -> Prop} {ΦF : Fl -> St -> Prop} {W : Wd} {s : Shared}
noncomputable abbrev Fx.mk' (X : Fx) (A : Around) : Fx := { X with A := A }
theorem RelS.mk' {A : Around} (R : RelS G X W σ s) : RelS G (X.mk' A) W σ s := by
 obtain ⟨⟨m, M, r⟩, sh⟩ := R
 exact ⟨⟨m, M, r.fr, r.nw, r.nod, r.lc, r.re, ⟨r.st.nod, r.st.loc, r.st.glb⟩, r.cp⟩, sh⟩
theorem RelS.un' {A : Around} (R : RelS G (X.mk' A) W σ s) : RelS G X W σ s := by
 obtain ⟨⟨m, M, r⟩, sh⟩ := R
 exact ⟨⟨m, M, r.fr, r.nw, r.nod, r.lc, r.re, ⟨r.st.nod, r.st.loc, r.st.glb⟩, r.cp⟩, sh⟩
theorem Fx.Ok.mark (o : X.Ok G) (e : Option Value) : (X.mk' (X.A.mark e)).Ok G := ⟨o.g, o.below, o.kind, o.frames, o.depth, o.units, o.ek, o.eg, o.eb⟩
theorem ssz_of {ts : List Stmt} (h : SSX G X ts ΦF noPs σ) : SSZ G X ts ΦF σ := fun W s R =>
 wpAny_mono (h W s R) (fun f s_1 ⟨W1, fl, σ1, _, a, b, c⟩ => ⟨W1, fl, σ1, a, b, c⟩) fun _ _ y => y
theorem fF (env : Env) (us : List Stmt) : ∀ ts, execs (ts ++ us) env = (execs ts env >>= fun f => match f with | .next => execs us env | f => pure f)
 | [] => by rw [List.nil_append]; show _ = ((pure .next : Sem Flow) >>= _); rw [pure_bind]
 | t :: ts => by
  rw [List.cons_append, execs_cons, execs_cons, bind_assoc]
  congr 1
  funext f
  cases f <;> simp [fF env us ts, pure_bind]
theorem b9 {ts us : List Stmt} (h : SSX G X ts (fun f σ1 => match f with | .next => SSZ G X us ΦF σ1 | f => ΦF f σ1) noPs σ) : SSZ G X (ts ++ us) ΦF σ := by
 intro W s R
 rw [fF]
 refine wpAny_bind (wpAny_mono (h W s R) (fun vf s_1 yy => ?_) fun _ _ y => y)
 obtain ⟨W1, f, σ1, l_1, rf, R_1, h_1⟩ := yy
 cases rf with
 | next => exact h_1 W1 s_1 R_1
 | brk => exact wpAny_pure ⟨W1, _, σ1, .brk, R_1, h_1⟩
 | cont => exact wpAny_pure ⟨W1, _, σ1, .cont, R_1, h_1⟩
 | ret r => exact wpAny_pure ⟨W1, _, σ1, .ret r, R_1, h_1⟩
theorem ns_upTo {h h' : Heap} {a : Addr} {m : Str -> Option Value} (n : h.Ns a m) (u : h.UpToSlots h') : h'.Ns a m := by
 obtain ⟨o, es, ep, h1, h2, h3, h4⟩ := n
 obtain ⟨sl, e⟩ := u a o h1 (fun vs q => by rw [h2] at q; injection q)
 exact ⟨_, es, ep, e, h2, h3, h4⟩
noncomputable def ExcSt (G : Gx) (X : Fx) (W : Wd) (ea C : Addr) (a : Int) (h : Heap) : Prop := ∃ oe dx es n t vs T oT ts, (ea, oe) ∈ W.Z /\ (dx, dictOf es n) ∈ W.Z /\ (T, oT) ∈ W.Z /\ nsIn G.K mainGlobals "WordFault" = some (some (.ref C)) /\ oe.cls = .ref C /\ oe.dict = some dx /\ oe.data = .fields vs /\ getL "at" es = some (some (.int a t)) /\
 vs[1]? = some (.ref T) /\ oT.data = .fields ts /\ ts[3]? = some .none
theorem caught {ea C dx B : _} {a : Int} {loc : List (Str × Option V)} {s_1 : Shared} {g : Heap} {m : Str -> Option Value} {es : List DictEntry} {n : Nat} {t : Tok} (hf : X.md = .fr) (ho : X.outer = []) (hpn : X.pins = []) (st : Sta G X σ) (hk : loc.map (·.1) = σ.loc.map (·.1))
  (F : Fr X.h₀ X.L g m) (hl : ∀ x d, (x, some d) ∈ loc -> match d with
   | .none => m x = some .none
   | .bool b => m x = some (.bool b)
   | .int i => ∃ t, m x = some (.int i t)
   | .bytes b => ∃ t, m x = some (.bytes b.toArray t)
   | _ => True) (u : g.UpToSlots s_1.heap) (hb : ∀ b o, g.get? b = some o -> b ∉ (frs X).filterMap (·.frame) -> B.get? b = some o)
  (hC : nsIn G.K mainGlobals "WordFault" = some (some (.ref C))) (hdx : B.get? dx = some (dictOf es n)) (ha : getL "at" es = some (some (.int a t))) (hd : dx ≠ X.L /\ X.h₀.get? dx = none) (E : Exn B (frs X) ea (.ref C) dx (· = some .none) s_1.heap) (sh : Sh G s_1) :
  ∃ W, RelS G X W ⟨immL loc, σ.glb, []⟩ s_1 /\ ExcSt G X W ea C a s_1.heap := by
 obtain ⟨hB, hea, hfr, oe, vs, he, hc, hdx', hdd, hsz, h6⟩ := E
 rcases h6 with ⟨q, -⟩ | ⟨T, oT, ts, fl, q1, q2, q3, q4, q5, q6, q7⟩
 ·injection q
 obtain rfl := Option.some.inj q7
 have hfl : (frs X).filterMap (·.frame) = [X.L] := by rw [show frs X = [X.fenv] from by unfold frs; rw [ho]]; rfl
 have h0 : ∀ b o, X.h₀.get? b = some o -> B.get? b = some o := fun b o e => hb b o (F.keep b o e) (by
  rw [hfl, List.mem_singleton]; exact Nat.ne_of_lt (Nat.lt_of_lt_of_le (Heap.lt_size e) F.above))
 have no0 : ∀ b, B.get? b = none -> X.h₀.get? b = none := fun b e => by
  cases q : X.h₀.get? b with
  | none => rfl
  | some o => rw [h0 b o q] at e; injection e
 have F' : Fr X.h₀ X.L s_1.heap m := ⟨ns_upTo F.ns u, fun b o e => hB b o (h0 b o e), F.above⟩
 have notL : ∀ {b o vs}, s_1.heap.get? b = some o -> o.data = .fields vs -> b ≠ X.L := fun {b o vs} e q z => by
  obtain ⟨o', es', ep, h1, h2, -⟩ := F'.ns
  rw [z] at e; rw [e] at h1; obtain rfl := Option.some.inj h1; rw [h2] at q; injection q
 have ne1 : ea ≠ dx := fun z => by rw [z, hdx] at hea; injection hea
 have ne2 : T ≠ dx := fun z => by rw [z, hdx] at q2; injection q2
 refine ⟨⟨[(ea, oe), (dx, dictOf es n), (T, oT)], []⟩, ⟨⟨m, [], F', ?_, ?_, ?_, .nil, ⟨?_, ?_, st.glb⟩, by rw [hf]; trivial⟩, sh⟩, oe, dx, es, n, t, vs, T, oT, ts, .head _, .tail _ (.head _), .tail _ (.tail _ (.head _)), hC, hc, hdx', hdd, ha, q1, q5, q6⟩
 ·rw [hpn]
  intro p hp
  simp at hp
  rcases hp with rfl | rfl | rfl
  ·exact ⟨he, notL he hdd, no0 _ hea⟩
  ·exact ⟨hB _ _ hdx, hd.1, hd.2⟩
  ·exact ⟨q4, notL q4 q5, no0 _ q2⟩
 ·rw [hpn]
  simp [ne1, Ne.symm ne2, Ne.symm q3]
 ·unfold Lc
  rw [hf]
  intro x d hm
  obtain ⟨h1, h2⟩ := immL_mem hm
  have := hl x d h1
  cases d <;> first | cases h2 | skip
  ·exact ⟨_, this, .none⟩
  ·exact ⟨_, this, .bool _⟩
  ·obtain ⟨t, e⟩ := this; exact ⟨_, e, .int _ _⟩
  ·obtain ⟨t, e⟩ := this
   refine ⟨_, e, ?_⟩
   rename_i b
   have := RV.bytes (P := G.P) (K := G.K) (W := ⟨[(ea, oe), (dx, dictOf es n), (T, oT)], []⟩) b.toArray t
   exact this
 ·rw [ir, hk]; exact st.nod
 ·rw [ir, hk]; exact st.loc
theorem RelS.drop {n : Str} (o : X.Ok G) (hf : X.md = .fr) (R : RelS G X W σ s) (hx : n ∈ σ.loc.map (·.1)) {Q : Unit -> Shared -> Prop} {E : Value -> Shared -> Prop} {A : Around} {pos : Pos} (k : ∀ s', RelS G X W ⟨gf n σ.loc, σ.glb, σ.heap⟩ s' -> Q () s') :
  wpAny G.M A (do bindName X.env n .none; unbindBehindTheSuite X.env n pos) Q E s := by
 have hE : X.env = X.fenv := by unfold Fx.env; rw [hf]
 have st := R.sta.loc n hx
 obtain ⟨m, M, r⟩ := R.rel
 rw [hE] at st ⊢
 refine wpAny_nameGoes_keeps st.1 r.fr.ns (by show (X.scope.kind == .class || (X.scope.kind == .module && _)) = false; rw [o.kind]; rfl) fun h' v hn hs => ?_
 refine k _ ⟨?_, ⟨R.sh.gens, R.sh.drawn, R.sh.os⟩⟩
 have lc := r.lc
 refine ⟨fun y => if y = n then v else m y, M, r.fr.set hn hs, r.nw.set hs, r.nod, ?_, r.re, ⟨by rw [gP]; exact r.st.nod, by rw [gP]; exact r.st.loc, r.st.glb⟩, by rw [hf]; trivial⟩
 unfold Lc at lc ⊢
 rw [hf] at lc ⊢
 intro y e hm
 obtain ⟨hm', hne⟩ := dropL_mem hm
 obtain ⟨u, hu, ru⟩ := lc y e hm'
 exact ⟨u, by simp only [if_neg hne]; exact hu, ru⟩
theorem keep3 {o : Obj} {ts : Array Value} (h : o.data = .fields ts) (h3 : ts[3]? = some .none) : o.mapFields (·.setIfInBounds 3 .none) = o := by
 obtain ⟨c, d, dt, sl⟩ := o
 subst h
 have : ts.setIfInBounds 3 .none = ts := by
  apply Array.ext
  ·simp
  ·intro i h1 h2
   rw [Array.getElem_setIfInBounds h2]
   split
   ·rename_i hi
    subst hi
    obtain ⟨h4, h5⟩ := Array.getElem?_eq_some_iff.mp h3
    exact h5.symm
   ·rfl
 show Obj.mk c d (.fields (ts.setIfInBounds 3 .none)) sl = _
 rw [this]
inductive TryP (G : Gx) (X : Fx) (ts : List Stmt) (ΦF : Fl -> St -> Prop) (f : Flow) (s : Shared) : Prop
 | mk (W : Wd) (fl : Fl) (σ : St) (rf : RFl G W f fl) (R : RelS G X W σ s) (h : match fl with | .next => SSZ G X ts ΦF σ | fl => ΦF fl σ)
theorem try_core {np hp pos : Pos} {n : Str} {body ts suite : List Stmt} {b₀ : Stmt} {Ψ : Ps} (o : X.Ok G) (hf : X.md = .fr) (ho : X.outer = []) (hpn : X.pins = []) (D : WordD G) (hw : HasG "WordFault" (.glob "WordFault") σ.glb) (hx : n ∈ σ.loc.map (·.1))
  (h1 : SSX G X body (fun f σ1 => match f with | .next => SSZ G X ts ΦF σ1 | f => ΦF f σ1) Ψ σ)
  (h2 : ∀ a loc, Ψ a loc -> loc.map (·.1) = σ.loc.map (·.1) /\ ∃ l', Put n (.exn a) (immL loc) l' /\ ∀ X', X'.Ok G -> X'.md = .fr -> X'.room = X.room -> X'.scope = X.scope ->
   SSX G X' (b₀ :: suite) (fun f σ1 => σ1.loc.map (·.1) = σ.loc.map (·.1) /\ match f with | .next => SSZ G X ts ΦF ⟨gf n σ1.loc, σ1.glb, σ1.heap⟩ | f => ΦF f ⟨gf n σ1.loc, σ1.glb, σ1.heap⟩) noPs ⟨l', σ.glb, []⟩)
  (R : RelS G X W σ s) : wpAny G.M X.A (exec (.Try body [.ExceptHandler (some (.Name "WordFault" np)) (some n) (b₀ :: suite) hp] [] [] pos) X.env) (TryP G X ts ΦF) (EE G X noPs) s := by
 have hE : X.env = X.fenv := by unfold Fx.env; rw [hf]
 refine wpAny_Try_except (wpAny_mono (h1 W s R) (fun vf s_1 yy => ?_) fun e s_1 ee => ?_)
 ·obtain ⟨W1, f, σ1, l_1, rf, R_1, h_1⟩ := yy
  cases rf with
  | next => exact wpAny_pure ⟨W1, _, σ1, .next, R_1, h_1⟩
  | brk => exact ⟨W1, _, σ1, .brk, R_1, h_1⟩
  | cont => exact ⟨W1, _, σ1, .cont, R_1, h_1⟩
  | ret r => exact ⟨W1, _, σ1, .ret r, R_1, h_1⟩
 obtain ⟨a, loc, hψ, ⟨ea, g, m, B, C, dx, es, nn, t, rfl, F, hl, u, hs, hb, hC, hdx, ha, hd, Ex⟩, sh⟩ := ee
 obtain ⟨hk, l', P, k⟩ := h2 a loc hψ
 rw [hE]
 refine note_ (outer := X.outer) o.frames rfl Ex fun h_2 x_2 u_2 => ?_
 refine iz (fl := none) x_2 fun h_3 x_3 u_3 => ?_
 obtain ⟨W_3, R_3, oe, dx', es', nn', t', vs, T, oT, tvs, z1, z2, z3, -, c1, c2, c3, c4, c5, c6, c7⟩ := caught (s_1 := { s_1 with heap := h_3 }) hf ho hpn R.sta hk F hl (u.trans (u_2.trans u_3)) hb hC hdx ha hd x_3 ⟨sh.gens, sh.drawn, sh.os⟩
 have eC : D.C = C := by have := D.gl; rw [hC] at this; cases this; rfl
 have hcls := D.cls
 rw [eC] at hcls
 obtain ⟨X', hX'⟩ : ∃ Y, X.mk' (X.A.mark (some (.ref ea))) = Y := ⟨_, rfl⟩
 have o' : X'.Ok G := hX' ▸ o.mark _
 have hf' : X'.md = .fr := hX' ▸ hf
 have R3' : RelS G X' W_3 ⟨immL loc, σ.glb, []⟩ { s_1 with heap := h_3 } := hX' ▸ R_3.mk'
 have eA : X'.A = X.A.mark (some (.ref ea)) := hX' ▸ rfl
 have eE : X'.env = X.fenv := by rw [<- hX']; show X.env = X.fenv; exact hE
 rw [<- eE]
 refine wpAny_handleBy_cons ?_ (ref_ne_byPass ea)
 rw [<- eA]
 refine codeAny_handlers_test (wpAny_mono ((au o' (σ := ⟨immL loc, σ.glb, []⟩) hw).o W_3 _ R3') (fun c s_4 yy => ?_) fun _ _ y => (cx y).elim)
 obtain ⟨W_4, d, σ4, l_4, rv, R_4, hd', hσ⟩ := yy
 subst hd' hσ
 cases rv.inv with
 | glob hg _ =>
 rw [hC] at hg; cases hg
 have g1 := R_4.known o' (.inr (l_4.z _ z1))
 have g2 := R_4.known o' (.inr (l_4.z _ z2))
 have g3 := R_4.known o' (.inr (l_4.z _ z3))
 have g4 := R_4.kin o' _ _ hcls
 obtain ⟨p4, q4, d4, t4, os4⟩ := s_4
 refine wpAny_excMatches_sub_self g4 g1 c1 (by rfl) ?_
 show codeAny _ _ _ _ _
 refine codeAny_handlers_suite_as ?_
 refine wpAny_setFlight_none g1 c3 c5 g3 c6 (Array.getElem?_eq_some_iff.mp c7).1 ?_
 have same : ∀ b ob, p4.get? b = some ob -> (p4.update T (Obj.mapFields (·.setIfInBounds 3 .none))).get? b = some ob := fun b ob e => by
  by_cases hbT : b = T
  ·subst hbT
   rw [g3] at e; obtain rfl := Option.some.inj e
   rw [Heap.get?_update_self _ g3 (Obj.isFreed_of_fields (Obj.data_mapFields c6 _)), keep3 c6 c7]
  ·rw [Heap.get?_update_other _ _ (Ne.symm hbT)]; exact e
 refine fw o' hf' P (.exn hC (.inr (l_4.z _ z1)) c1 c2 c3 (.inr (l_4.z _ z2)) c4) (R_4.grow (tk := t4) same) fun s5 R_5 => ?_
 refine wpAny_mono (k X' o' hf' (hX' ▸ rfl) (hX' ▸ rfl) W_4 s5 R_5) (fun vf s6 yy => ?_) fun _ _ y => (cx y).elim
 obtain ⟨W6, f, σ6, l_6, rf, R_6, hk6, h_6⟩ := yy
 have R6' : RelS G X W6 σ6 s6 := by rw [<- hX'] at R_6; exact R_6.un'
 show wpAny _ _ _ _ _ _
 rw [eE, <- hE]
 refine R6'.drop o hf (by rw [hk6]; exact hx) fun s7 R_7 => ?_
 cases rf with
 | next => exact ⟨W6, _, _, .next, R_7, h_6⟩
 | brk => exact ⟨W6, _, _, .brk, R_7, h_6⟩
 | cont => exact ⟨W6, _, _, .cont, R_7, h_6⟩
 | ret r => exact ⟨W6, _, _, .ret r, R_7, h_6⟩
theorem ssz_try {np hp pos : Pos} {n : Str} {body ts suite : List Stmt} {b₀ : Stmt} {Ψ : Ps} (o : X.Ok G) (hf : X.md = .fr) (ho : X.outer = []) (hpn : X.pins = []) (D : WordD G) (hw : HasG "WordFault" (.glob "WordFault") σ.glb) (hx : n ∈ σ.loc.map (·.1))
  (h1 : SSX G X body (fun f σ1 => match f with | .next => SSZ G X ts ΦF σ1 | f => ΦF f σ1) Ψ σ)
  (h2 : ∀ a loc, Ψ a loc -> loc.map (·.1) = σ.loc.map (·.1) /\ ∃ l', Put n (.exn a) (immL loc) l' /\ ∀ X', X'.Ok G -> X'.md = .fr -> X'.room = X.room -> X'.scope = X.scope ->
   SSX G X' (b₀ :: suite) (fun f σ1 => σ1.loc.map (·.1) = σ.loc.map (·.1) /\ match f with | .next => SSZ G X ts ΦF ⟨gf n σ1.loc, σ1.glb, σ1.heap⟩ | f => ΦF f ⟨gf n σ1.loc, σ1.glb, σ1.heap⟩) noPs ⟨l', σ.glb, []⟩) :
  SSZ G X (.Try body [.ExceptHandler (some (.Name "WordFault" np)) (some n) (b₀ :: suite) hp] [] [] pos :: ts) ΦF σ := by
 intro W s R
 refine wpAny_execs_cons (wpAny_mono (try_core o hf ho hpn D hw hx h1 h2 R) (fun f s' yy => ?_) fun _ _ y => y)
 obtain ⟨W1, fl, σ1, rf, R_1, h_1⟩ := yy
 cases rf with
 | next => exact h_1 W1 s' R_1
 | brk => exact ⟨W1, _, σ1, .brk, R_1, h_1⟩
 | cont => exact ⟨W1, _, σ1, .cont, R_1, h_1⟩
 | ret r => exact ⟨W1, _, σ1, .ret r, R_1, h_1⟩
noncomputable def ExnG (G : Gx) : Prop := ∀ C, nsIn G.K mainGlobals "WordFault" = some (some (.ref C)) -> findIn G.K (.ref C) "__getattribute__" = some (some (.builtin "BaseException.__getattribute__")) /\ findIn G.K (.ref C) "__getattr__" = some none /\ subIn G.K (.ref C) (.type "BaseException") = some true /\ hasDictIn G.K C = true /\ findIn G.K (.ref C) "at" = some none
theorem pga_exn {a : Int} (o : X.Ok G) (H : ExnG G) : PGA G X (.exn a) "at" σ (.int a) := by
 intro W va ra s R
 cases ra.inv with
 | @exn ea dx C oe es n t vs hC h h1 h2 h3 h' ha =>
  obtain ⟨p1, p2, p3, p4, p5⟩ := H _ hC
  have I : InstAt s.heap ea oe C (some (dictOf es n)) := ⟨R.known o h, h1, by unfold notCls; rw [h3], by rw [h2]; exact R.known o h'⟩
  exact get_exc (R.kin o) I p1 p2 p3 (findObj_own p4 p5 rfl ha) rfl ⟨W, _, σ, .rfl, .int _ _, R.tok, rfl, rfl⟩
end
section
variable {G : Gx} {X : Fx} {σ : St}
theorem pga_i {i : Nat} {c q name : Str} {D : Df} {l : List Str} {fs : List (Str × V)} {d : V} (o : X.Ok G) (hi : σ.heap[i]? = some (some (.inst c fs))) (hc : ClsG G c q D l) (hn : name ∈ l) (hd : getF name fs = some d) (hp : plainV d = true) : PGA G X (.loc i) name σ d := pga_inst o hc hn hi hd hp
theorem gm_i {i : Nat} {c q name mq : Str} {D Dm : Df} {l : List Str} {fs : List (Str × V)} (o : X.Ok G) (hi : σ.heap[i]? = some (some (.inst c fs))) (hc : ClsG G c q D l) (hm : MthG G c name mq Dm) (hd : getF name fs = none) : GM G X (.loc i) name (.meth c name) [.loc i] σ := cP o hc hm hi hd
end
set_option hygiene false
local macro_rules | `(tactic| walk_at "u") => `(tactic| with_unfolding_all rfl)
local macro_rules | `(tactic| walk_at "h") => `(tactic| ((try dsimp only); (repeat with_reducible constructor); done))
local macro_rules | `(tactic| walk_at "hp") => `(tactic| first | assumption | rfl | (simp; done))
local macro_rules | `(tactic| walk_at "sd") => do
  let f := fun (s : String) => ((s.splitOn " ").map fun x => Lean.mkIdent x.toName).toArray
  let xs := f "byB_lo byB_hi bL"
  let ys := f "Om.lo Om.hi Om.za Om.zh Om.zb"
  let zs := f "Base.Moment Base.Reader Base.m_told Base.m_place Base.m_atom Base.m_skip Base.m_number Base.m_need"
  `(tactic| first | assumption | with_unfolding_all decide $[| exact $ys:ident ‹_›]* $[| apply $xs:ident]* $[| exact $zs:ident ‹_›]* | exact Om.rn ‹_› ‹_› | exact Om.re ‹_› ‹_› | exact Om.rr ‹_› ‹_› ‹_› | exact Om.zr ‹_› ‹_› | exact Om.zs ‹_› ‹_› | with_unfolding_all rfl | omega | (simp; done) | (simp_all <;> omega))
local macro_rules | `(tactic| walk_at "dk") => `(tactic| exact ⟨by rfl, by intro kV doc pm an cdv ct; (first | apply of1 | apply of2 | apply of3 | apply of4 | apply of0) <;> intros <;> rfl, rfl, by decide, by rfl, by rfl⟩)
local macro_rules | `(tactic| walk_at "pe") => do
  let f := fun (s : String) => ((s.splitOn " ").map fun x => Lean.mkIdent x.toName).toArray
  let g := fun (s : String) => do
    let xs := f s
    let k := xs[0]!
    let ys := xs.extract 1 xs.size
    `(tactic| (show $k ..; first $[| apply $ys:ident]*))
  let e := f "aj ai hZ ce ia ar bu cS pe_chain b4 gz pe_none pe_bool pe_unop jn cf bU pe_list"
  let c := f "pc_inti pc_abs pc_range1 pc_range2 pc_ord pc_dget pc_lenb pc_lenl pc_lens pc_chr pc_strn ej"
  let A <- #["PT bw bB pt_not pt_chain jm", "PTs gv eY dY ca", "PEB dI d9 peb_or", "PTC ptc_last ptc_more", "PEC pec_last pec_more", "PA pa_nil ah"].mapM g
  let B <- #["PQ pq_eq pq_ne pq_lt pq_le pq_gt pq_ge pq_eqb pq_neb pq_eqs pq_nes pq_les pq_eqn pq_nen pq_is0 pq_isnot0 pq_ins pq_notins pq_inti pq_ints kN pq_inls pq_eqt pq_net pq_inb", "PB2 fA pb_sub pb_mod ic pb_pow gB pb_addb bC pb_muls pb_addl ig", "PR pr_bool pr_lst", "PG pg_t cb pg_b pg_s pg_l pg_d", "PS ps_t2 ps_b ps_b0 ps_b1 hV ps_s0 ps_s2 ps_l0 ps_init", "PU1 pu_neg", "PGA pga_exn pga_obj pga_i", "GM gm_obj gm_i dn gm_indext gm_lower gm_upper gm_get gm_index"].mapM g
  `(tactic| repeat' first
   | with_reducible (first
    | (show PE ..; first | (apply gx; apply Fx.Ok.ek <;> assumption; walk_at "h") | (apply au; assumption; walk_at "h") | (apply gy <;> (walk_at "pe"; done)) | (apply pe_ifS <;> (walk_at "pe"; done)) | apply aI ‹_› (by walk_at "u") ⟨_, fun _ => by walk_at "u"⟩ | apply pe_attr fun _ => by walk_at "u" $[| apply $e:ident]*)
    $[| $A:tactic]*
    | (show PC ..; (try dsimp only [List.cons_append, List.nil_append]); first | ((first $[| apply $c:ident]*) <;> walk_at "sd") | walk_at "own")
    | ((first $[| $B:tactic]*) <;> walk_at "sd")
    | assumption)
   | walk_at "u" | (with_reducible show _ -> _; intro hc) | (with_reducible show _ <= _; dsimp only [List.length]; walk_at "sd"))
noncomputable def atomSigns : List UInt8 := [33, 35, 36, 37, 38, 39, 42, 43, 45, 47, 61, 63, 94, 95, 96, 123, 124, 125, 126]
noncomputable def bq (c : Int) : Bool := decide (48 <= c) && decide (c <= 57) || (decide (65 <= c) && decide (c <= 90) || (decide (97 <= c) && decide (c <= 122) || (decide (127 < c) || atomSigns.contains c.toNat.toUInt8)))
noncomputable def aL (b : List UInt8) (at_ : Int) : Int := if slB b at_ (at_ + 1) = [10] then at_ + 1 else if slB b at_ (at_ + 2) = [13, 10] then at_ + 2 else -1
noncomputable def leap (y : Int) : Bool := decide (y.fmod 4 = 0) && (decide (y.fmod 100 ≠ 0) || decide (y.fmod 400 = 0))
noncomputable def dq (y : Int) : Int := (y - 1) * 365 + (y - 1).fdiv 4 - (y - 1).fdiv 100 + (y - 1).fdiv 400
section
variable {G : Gx} {X : Fx} {σ : St} {Ψ : Ps} {Φ : V -> St -> Prop}
theorem kh (B : Base G) (o : X.Ok G) (hr : 1 <= X.room) {c : Int} (h0 : 0 <= c) (h1 : c < 256) : PC G X (.glob "is_atom_code") [.int c] σ (.bool (bq c)) := by
 refine aq ["code"] [] [("ATOM_SIGNS", .bytes atomSigns)] o hr B.f_is_atom_code (by walk_at "dk") (.cons B.ATOM_SIGNS .nil) rfl fun X' o' hmd hh hr' => ?_
 dsimp only [mkLoc, List.map]
 apply ac
 ·walk_at "pe"
 ·exact ⟨rfl, rfl⟩
theorem kP (B : Base G) (o : X.Ok G) (hr : 1 <= X.room) {b : List UInt8} {p : Int} (hz : b.length <= 100000) (h0 : 0 <= p) : PC G X (.glob "line_end") [.bytes b, .int p] σ (.int (aL b p)) := by
 refine aq ["data", "at"] [] [] o hr B.f_line_end (by walk_at "dk") .nil rfl fun X' o' hmd hh hr' => ?_
 dsimp only [mkLoc, List.map]
 apply az
 ·walk_at "pe"
 ·intro hc
  with_reducible apply ac
  ·walk_at "pe"
  ·exact ⟨by simp_all [aL], rfl⟩
 ·intro hc
  with_reducible apply aa
  with_reducible apply ac
  ·walk_at "pe"
  ·exact ⟨by simp_all [aL], rfl⟩
theorem p_is_leap (B : Base G) (o : X.Ok G) (hr : 1 <= X.room) {y : Int} : PC G X (.glob "is_leap") [.int y] σ (.bool (leap y)) := by
 refine aq ["year"] [] [] o hr B.f_is_leap (by walk_at "dk") .nil rfl fun X' o' hmd hh hr' => ?_
 dsimp only [mkLoc, List.map]
 apply ac
 ·walk_at "pe"
 ·exact ⟨rfl, rfl⟩
theorem jr (B : Base G) (o : X.Ok G) (hr : 1 <= X.room) {y : Int} : PC G X (.glob "days_before_year") [.int y] σ (.int (dq y)) := by
 refine aq ["year"] ["past"] [] o hr B.f_days_before_year (by walk_at "dk") .nil rfl fun X' o' hmd hh hr' => ?_
 dsimp only [mkLoc, List.map]
 apply aw o' hmd rfl
 ·walk_at "pe"
 ·walk_at "h"
 with_reducible apply ac
 ·walk_at "pe"
 ·exact ⟨rfl, rfl⟩
end
noncomputable def lc (c : Nat) : Nat := if 65 <= c /\ c <= 90 then c + 32 else c
noncomputable def lowT (t : List Nat) : List Nat := t.map lc
section
variable {G : Gx} {X : Fx} {σ : St} {Ψ : Ps} {Φ : V -> St -> Prop}
theorem jQ (B : Base G) (o : X.Ok G) (hr : 1 <= X.room) {c : Nat} : PC G X (.glob "lower_code") [.int c] σ (.int (lc c)) := by
 refine pc_cast (v := .int (if (decide (65 <= (c : Int)) && decide ((c : Int) <= 90)) = true then (c : Int) + 32 else c)) ?_ (by unfold lc; congr 1; by_cases h : 65 <= c /\ c <= 90 <;> simp [h] <;> (first | exact (Om.q 1 0 (.i (.a (.l (.k 65) .x0) (.l .x0 (.k 90))) (.i (.i (.L (.k 65) (.c .x0)) (.T (.k 90) (.c .x0))) (.E (.c .x0) (.a (.c .x0) (.k 32)))))) _ h | exact (Om.q 1 0 (.i (.n (.a (.l (.k 65) .x0) (.l .x0 (.k 90)))) (.i (.L (.k 65) (.c .x0)) (.i (.L (.c .x0) (.k 90)) (.E (.a (.c .x0) (.k 32)) (.c .x0)))))) _ h))
 refine aq ["code"] [] [] o hr B.f_lower_code (by walk_at "dk") .nil rfl fun X' o' hmd hh hr' => ?_
 dsimp only [mkLoc, List.map]
 apply ac
 ·walk_at "pe"
 ·exact ⟨rfl, rfl⟩
theorem joinL_ones : ∀ t : List Nat, aX [] (t.map fun c => [c]) = t
 | [] => rfl
 | [a] => rfl
 | a :: b :: r => by
  have := joinL_ones (b :: r)
  show [a] ++ [] ++ aX [] ((b :: r).map fun c => [c]) = _
  rw [this]; rfl
theorem ey (f : Nat -> Nat) : ∀ t : List Nat, (t.map fun c => [f c]).flatten.length = t.length
 | [] => rfl
 | a :: r => by
  have := ey f r
  rw [List.map_cons, List.flatten_cons, List.length_append, this]; simp; exact (Om.q 1 0 .f28) _
noncomputable def oneOf : V -> Nat
 | .str [c] => c
 | .int i => i.toNat
 | _ => 0
local macro_rules | `(tactic| walk_at "own") => `(tactic| apply jQ <;> walk_at "sd")
theorem jP (B : Base G) (o : X.Ok G) (hh : X.A.handled = none) (hr : 2 <= X.room) {t : List Nat} (hz : t.length <= 10000) (hb : ∀ c ∈ t, c < 256) : PC G X (.glob "lower_text") [.str t] σ (.str (lowT t)) := by
 refine aq ["text"] [] [] o (Om.lo hr) B.f_lower_text (by walk_at "dk") .nil rfl fun X' o' hmd hh' hr' => ?_
 dsimp only [mkLoc, List.map]
 refine ac (v := .str (aX [] (t.map fun c => [lc c]))) ?_ ?_
 ·with_reducible refine aI (by assumption) (by walk_at "u") ⟨_, fun _ => by walk_at "u"⟩ b4 dn rfl (ds := [.lst ((t.map fun c => V.str [c]).map (fun d => .str [((lc (oneOf d) : Nat) : Int).toNat]))]) ?_ ?_
  ·with_reducible refine ah (by walk_at "u") ?_ pa_nil
   refine bV [("chr", .val (.builtin "chr")), ("ord", .val (.builtin "ord")), ("lower_code", .glob "lower_code")] (fun d => .str [((lc (oneOf d) : Nat) : Int).toNat]) (d := .str t) o' hmd (hh'.trans hh) (by rfl) (.cons B.chr (.cons B.ord (.cons (av B.f_lower_code) .nil))) (fun _ _ => rfl) (fun _ => by walk_at "u") ?_ rfl rfl ?_ ?_
   ·walk_at "pe"
   ·simp; exact Om.hi hz
   ·intro d hd X2 o2 hm2 hh2 hr2
    obtain ⟨c, hc, rfl⟩ := List.mem_map.mp hd
    have := hb c hc
    have h : lc c < 300 := by unfold lc; split <;> (first | exact (Om.q 1 0 (.i (.t .x0 (.k 256)) (.i (.a (.l (.k 65) .x0) (.l .x0 (.k 90))) (.t (.a .x0 (.k 32)) (.k 300))))) _ this (by assumption) | exact (Om.q 1 0 (.i (.t .x0 (.k 256)) (.t .x0 (.k 300)))) _ this)
    dsimp only [oneOf]
    walk_at "pe"
  ·exact ei (bs := t.map fun c => [lc c]) (by rw [List.map_map, List.map_map]; rfl) o' (by decide) (by simp; exact Om.hi hz) (by rw [ey]; exact Om.hi hz)
 ·have : aX [] (t.map fun c => [lc c]) = lowT t := by
   have := joinL_ones (t.map lc)
   rw [List.map_map] at this
   exact this
  rw [this]; exact ⟨rfl, rfl⟩
end
local macro_rules | `(tactic| walk_at "own") => `(tactic| (first | apply p_is_leap | apply jr) <;> walk_at "sd")
noncomputable def aB (y m : Int) : Int := if m = 2 then (if leap y = true then 29 else 28) else if [4, 6, 9, 11].contains m = true then 30 else 31
noncomputable def mb (y : Int) : Nat -> Int
 | 0 => 0
 | n + 1 => mb y n + aB y (n + 1)
noncomputable def fH (y m d : Int) : Int := dq y - 719162 + d - 1 + mb y (m - 1).toNat
noncomputable def bR (y m d : Int) : Int := (fH y m d + 3).fmod 7
noncomputable def ew (y m d : Int) : Bool := (decide (1 <= y) && decide (y <= 9999)) && ((decide (1 <= m) && decide (m <= 12)) && (decide (1 <= d) && decide (d <= aB y m)))
noncomputable def cn (h m s : Int) : Bool := (decide (0 <= h) && decide (h <= 23)) && ((decide (0 <= m) && decide (m <= 59)) && (decide (0 <= s) && decide (s <= 60)))
noncomputable def aD (n : Int) (f : Int) : Int := if f = 2 then n + (if n < 50 then 2000 else 1900) else if f = 3 then n + 1900 else n
section
variable {G : Gx} {X : Fx} {σ : St} {Ψ : Ps} {Φ : V -> St -> Prop}
theorem i7 (B : Base G) (o : X.Ok G) (hr : 2 <= X.room) {y m : Int} : PC G X (.glob "month_length") [.int y, .int m] σ (.int (aB y m)) := by
 refine aq ["year", "month"] [] [("is_leap", .glob "is_leap")] o (Om.lo hr) B.f_month_length (by walk_at "dk") (.cons (av B.f_is_leap) .nil) rfl fun X' o' hmd hh hr' => ?_
 dsimp only [mkLoc, List.map]
 apply az
 ·walk_at "pe"
 ·intro hc
  with_reducible apply ac
  ·walk_at "pe"
  ·refine ⟨?_, rfl⟩
   simp only [decide_eq_true_eq] at hc
   simp [aB, hc]
 ·intro hc
  with_reducible apply aa
  with_reducible apply ac
  ·walk_at "pe"
  ·refine ⟨?_, rfl⟩
   simp only [decide_eq_false_iff_not] at hc
   simp [aB, hc]
theorem kg (B : Base G) (o : X.Ok G) (hr : 1 <= X.room) {n f : Int} : PC G X (.glob "full_year") [.int n, .int f] σ (.int (aD n f)) := by
 refine aq ["number", "figures"] [] [] o (Om.lo hr) B.f_full_year (by walk_at "dk") .nil rfl fun X' o' hmd hh hr' => ?_
 dsimp only [mkLoc, List.map]
 apply az
 ·walk_at "pe"
 ·intro hc
  with_reducible apply ac
  ·walk_at "pe"
  ·refine ⟨?_, rfl⟩
   simp only [decide_eq_true_eq] at hc
   simp [aD, hc]
 ·intro hc
  with_reducible apply aa
  with_reducible apply ac
  ·walk_at "pe"
  ·refine ⟨?_, rfl⟩
   simp only [decide_eq_false_iff_not] at hc
   simp [aD, hc]
local macro_rules | `(tactic| walk_at "own") => `(tactic| apply i7 <;> walk_at "sd")
theorem jR (B : Base G) (o : X.Ok G) (hh0 : X.A.handled = none) (hr : 3 <= X.room) {y m d : Int} (h1 : 1 <= m) (h2 : m <= 12) : PC G X (.glob "day_number") [.int y, .int m, .int d] σ (.int (fH y m d)) := by
 refine aq ["year", "month", "day"] ["total", "earlier"] [("days_before_year", .glob "days_before_year"), ("FIRST_DAY", .int 719162), ("range", .val (.type "range")), ("month_length", .glob "month_length")] o (Om.lo hr) B.f_day_number (by walk_at "dk")
  (.cons (av B.f_days_before_year) (.cons B.FIRST_DAY (.cons B.range (.cons (av B.f_month_length) .nil)))) rfl fun X' o' hmd hh hr' => ?_
 dsimp only [mkLoc, List.map]
 apply aw o' hmd rfl
 ·walk_at "pe"
 ·walk_at "h"
 refine ay (gY o' hmd (hh.trans hh0) (fun _ _ => rfl) (am (v := .rng 1 m) (by walk_at "pe") ⟨_, rfl, small_one (by decide) (by decide) ((Om.q 0 1 (.i (.L .k1 .x0) (.i (.L .x0 (.k 12)) (.L (.g (.k 4611686018427387904)) .x0)))) _ h1 h2) ((Om.q 0 1 (.i (.L .k1 .x0) (.i (.L .x0 (.k 12)) (.T .x0 (.k 4611686018427387904))))) _ h1 h2), fun i σ' => ∃ ov, σ' = ⟨[("year", some (.int y)), ("month", some (.int m)), ("day", some (.int d)), ("total", some (.int (dq y - 719162 + d - 1 + mb y i))), ("earlier", ov)], [("days_before_year", .glob "days_before_year"), ("FIRST_DAY", .int 719162), ("range", .val (.type "range")), ("month_length", .glob "month_length")], σ.heap⟩, ?_, ?_, ?_⟩))
 ·exact ⟨_, by rw [show mb y 0 = 0 from rfl, Int.add_zero]⟩
 ·rintro i e σ' he ⟨ov, rfl⟩
  have hi : i < (m - 1).toNat := by
   have := (List.getElem?_eq_some_iff.mp he).1
   simpa using this
  rw [List.getElem?_map, List.getElem?_range hi] at he
  obtain rfl := Option.some.inj he
  refine ⟨_, by walk_at "h", fun X2 o2 hmd2 hh2 hr2 hs2 => ?_⟩
  with_reducible apply aw o2 hmd2 rfl
  ·walk_at "pe"
  ·walk_at "h"
  with_reducible apply aa
  refine ⟨some (.int (1 + (i : Nat))), ?_⟩
  rw [show mb y (i + 1) = mb y i + aB y ((i : Nat) + 1) from rfl, show (1 : Int) + (i : Nat) = (i : Nat) + 1 by exact (Om.q 1 0 (.E (.a .k1 (.c .x0)) (.a (.c .x0) .k1))) _, Int.add_assoc]
 ·rintro σ' ⟨ov, rfl⟩
  with_reducible apply ac
  ·walk_at "pe"
  ·refine ⟨?_, rfl⟩
   have : (List.map (fun i => V.int (1 + (i : Nat))) (List.range (m - 1).toNat)).length = (m - 1).toNat := by simp
   rw [this]; rfl
local macro_rules | `(tactic| walk_at "own") => `(tactic| apply jR <;> walk_at "sd")
theorem p_weekday (B : Base G) (o : X.Ok G) (hh0 : X.A.handled = none) (hr : 4 <= X.room) {y m d : Int} (h1 : 1 <= m) (h2 : m <= 12) : PC G X (.glob "weekday") [.int y, .int m, .int d] σ (.int (bR y m d)) := by
 refine aq ["year", "month", "day"] [] [("day_number", .glob "day_number")] o (Om.lo hr) B.f_weekday (by walk_at "dk")
  (.cons (av B.f_day_number) .nil) rfl fun X' o' hmd hh hr' => ?_
 dsimp only [mkLoc, List.map]
 apply ac
 ·walk_at "pe"
 ·exact ⟨rfl, rfl⟩
theorem p_is_day (B : Base G) (o : X.Ok G) (hr : 3 <= X.room) {y m d : Int} : PC G X (.glob "is_day") [.int y, .int m, .int d] σ (.bool (ew y m d)) := by
 refine aq ["year", "month", "day"] [] [("MOST_YEAR", .int 9999), ("month_length", .glob "month_length")] o (Om.lo hr) B.f_is_day (by walk_at "dk")
  (.cons B.MOST_YEAR (.cons (av B.f_month_length) .nil)) rfl fun X' o' hmd hh hr' => ?_
 dsimp only [mkLoc, List.map]
 apply ac
 ·walk_at "pe"
 ·exact ⟨rfl, rfl⟩
theorem p_is_time (B : Base G) (o : X.Ok G) (hr : 1 <= X.room) {y m d : Int} : PC G X (.glob "is_time") [.int y, .int m, .int d] σ (.bool (cn y m d)) := by
 refine aq ["hour", "minute", "second"] [] [] o (Om.lo hr) B.f_is_time (by walk_at "dk")
  .nil rfl fun X' o' hmd hh hr' => ?_
 dsimp only [mkLoc, List.map]
 apply ac
 ·walk_at "pe"
 ·exact ⟨rfl, rfl⟩
end
noncomputable def bE (t : List Nat) : Bool := decide (t ≠ []) && t.all fun c => decide (48 <= c) && decide (c <= 57)
theorem aZ {t : List Nat} (h : bE t = true) : AllDigits t /\ t ≠ [] := by
 simp only [bE, Bool.and_eq_true, decide_eq_true_eq, List.all_eq_true] at h
 exact ⟨h.2, h.1⟩
noncomputable def ij (lo hi : List Nat) : V -> Bool
 | .str s => !(!decide (s < lo) && !decide (hi < s))
 | _ => true
theorem lt_one (a b : Nat) : ([a] < [b]) ↔ a < b := by
 constructor
 ·intro h
  cases h with
  | rel h => exact h
  | cons h => cases h
 ·exact fun h => .rel h
theorem notIn_one {lo hi c : Nat} : ij [lo] [hi] (.str [c]) = !(decide (lo <= c) && decide (c <= hi)) := by
 show (!(!decide ([c] < [lo]) && !decide ([hi] < [c]))) = _
 simp only [lt_one]
 by_cases h1 : lo <= c <;> by_cases h2 : c <= hi <;> simp [h1, h2] <;> (first | exact (Om.q 3 0 (.i (.n (.l .x2 .x1)) (.o (.t .x1 .x2) (.t .x0 .x1)))) _ _ _ h1 | exact (Om.q 3 0 (.i (.n (.l .x2 .x1)) (.o (.t .x2 .x0) (.t .x1 .x2)))) _ _ _ h2)
theorem cq {lo hi : Nat} {f : V -> V} : ∀ t : List Nat, ((((t.map fun c => V.str [c]).filter (ij [lo] [hi])).map f).isEmpty) = t.all fun c => decide (lo <= c) && decide (c <= hi)
 | [] => rfl
 | c :: r => by
  have ih := cq (lo := lo) (hi := hi) (f := f) r
  rw [List.map_cons, List.filter_cons, notIn_one, List.all_cons]
  cases h : (decide (lo <= c) && decide (c <= hi))
  ·simp
  ·simpa using ih
theorem S0 : S "0" = [48] := by decide +kernel
theorem S9 : S "9" = [57] := by decide +kernel
theorem Sa : S "a" = [97] := by decide +kernel
theorem Sz : S "z" = [122] := by decide +kernel
theorem S_e : S "" = [] := by decide +kernel
section
variable {G : Gx} {X : Fx} {σ : St} {Ψ : Ps} {Φ : V -> St -> Prop}
theorem fC (B : Base G) (o : X.Ok G) (hh0 : X.A.handled = none) (hr : 1 <= X.room) {t : List Nat} (hz : t.length <= 10000) : PC G X (.glob "is_figures") [.str t] σ (.bool (bE t)) := by
 refine aq ["text"] [] [] o (Om.lo hr) B.f_is_figures (by walk_at "dk") .nil rfl fun X' o' hmd hh hr' => ?_
 dsimp only [mkLoc, List.map]
 refine ac (v := .bool (decide (t ≠ S "") && ((((t.map fun c => V.str [c]).filter (ij (S "0") (S "9"))).map fun d => d).isEmpty))) ?_ ?_
 ·with_reducible refine cf (d9 (by walk_at "pe") fun _ => dI ?_)
  with_reducible refine cS (by walk_at "u") (a := .lst _) (b := .lst []) ?_ (by walk_at "pe") (pq_eqn o')
  refine dJ [] (ij (S "0") (S "9")) (fun d => d) (d := .str t) o' hmd (hh.trans hh0) (by rfl) .nil (fun _ _ => rfl) (fun _ => by walk_at "u") (by walk_at "pe") rfl rfl (by simp; exact Om.hi hz) ?_ ?_
  ·intro d hd X2 o2 hm2 hh2 hr2
   obtain ⟨c, hc, rfl⟩ := List.mem_map.mp hd
   show PT _ _ _ _ (!(!decide ([c] < S "0") && !decide (S "9" < [c])))
   walk_at "pe"
  ·intro d hd _ X2 o2 hm2 hh2 hr2
   walk_at "pe"
 ·refine ⟨?_, rfl⟩
  rw [S0, S9, S_e, cq]
  rfl
noncomputable def padI (n w : Int) : List Nat := (List.replicate (w - ((figs n.toNat).length : Int)).toNat (S "0")).flatten ++ figs n.toNat
theorem cW {n : Nat} (h : n < 10 ^ 10) : (figs n).length <= 11 := by
 have := KT.len_num (n := (n : Int)) ((Om.q 1 0 (.i (.t .x0 (.k 10000000000)) (.L .k0 (.c .x0)))) _ h) ((Om.q 1 0 (.i (.t .x0 (.k 10000000000)) (.T (.c .x0) (.k 10000000000)))) _ h)
 rw [<- eU, fY]
 exact Om.hi this
theorem p_padded (B : Base G) (o : X.Ok G) (hr : 1 <= X.room) {n w : Int} (h0 : 0 <= n) (h1 : n < 10 ^ 9) (hw : 0 <= w) (hw2 : w <= 100) : PC G X (.glob "padded") [.int n, .int w] σ (.str (padI n w)) := by
 have hl := cW (n := n.toNat) ((Om.q 1 1 .f29) _ _ h0 h1 (Om.tno _))
 refine aq ["number", "width"] ["figures"] [("str", .val (.type "str")), ("len", .val (.builtin "len"))] o (Om.lo hr) B.f_padded (by walk_at "dk") (.cons B.str (.cons B.len .nil)) rfl fun X' o' hmd hh hr' => ?_
 dsimp only [mkLoc, List.map]
 apply aw o' hmd rfl
 ·walk_at "pe"
 ·walk_at "h"
 have hrep : ((List.replicate (w - ((figs n.toNat).length : Int)).toNat (S "0")).flatten).length <= 100 := by
  rw [S0, List.length_flatten]; simp; exact (Om.q 1 1 .f59) _ _ hw hw2 hl
 with_reducible apply ac
 ·walk_at "pe"
 ·exact ⟨rfl, rfl⟩
end
local macro_rules | `(tactic| walk_at "own") => `(tactic| (first | apply p_padded | apply fC | apply jP) <;> walk_at "sd")
theorem aG {n w : Int} (h0 : 0 <= n) (h1 : n < 10 ^ 9) (hw2 : w <= 100) : (padI n w).length <= 111 := by
 have hl := cW (n := n.toNat) ((Om.q 1 1 .f29) _ _ h0 h1 (Om.tno _))
 unfold padI
 rw [S0, List.length_append, List.length_flatten]; simp; exact (Om.q 3 1 (.i (.L .x0 (.k 100)) (.i (.l .x2 (.k 11)) (.i (.o (.a (.L .k0 .x0) (.E (.c .x0) .x0)) (.a (.T .x0 .k0) (.e .x0 .k0))) (.i (.o (.a (.l .x2 .x0) (.e (.a .x1 .x2) .x0)) (.a (.t .x0 .x2) (.e .x1 .k0))) (.l (.a .x1 .x2) (.k 111))))))) _ (Nat.sub _ _) (Int.toNat _) _ hw2 hl ((Om.tno _)) ((Om.sbo _ _))
noncomputable abbrev iabs (z : Int) : Int := if z < 0 then -z else z
noncomputable def bd (z : Int) : List Nat := (if (decide (z < 0)) = true then S "-" else S "+") ++ padI ((iabs z).fdiv 60) 2 ++ padI ((iabs z).fmod 60) 2
theorem fd60 {z : Int} (h : z < 1000000) (h' : -1000000 < z) : 0 <= (iabs z).fdiv 60 /\ (iabs z).fdiv 60 < 10 ^ 9 /\ 0 <= (iabs z).fmod 60 /\ (iabs z).fmod 60 < 60 := by
 have h0 : 0 <= iabs z := by unfold iabs; split <;> (first | exact (Om.q 0 1 (.i (.T .x0 (.k 1000000)) (.i (.T (.g (.k 1000000)) .x0) (.i (.T .x0 .k0) (.L .k0 (.g .x0)))))) _ h h' (by assumption) | exact (Om.q 0 1 (.i (.T .x0 (.k 1000000)) (.i (.T (.g (.k 1000000)) .x0) (.i (.n (.T .x0 .k0)) (.L .k0 .x0))))) _ h h' (by assumption))
 have h1 : iabs z < 1000000 := by unfold iabs; split <;> (first | exact (Om.q 0 1 (.i (.T .x0 (.k 1000000)) (.i (.T (.g (.k 1000000)) .x0) (.i (.T .x0 .k0) (.T (.g .x0) (.k 1000000)))))) _ h h' (by assumption) | exact (Om.q 0 1 (.i (.T .x0 (.k 1000000)) (.i (.T (.g (.k 1000000)) .x0) (.i (.n (.T .x0 .k0)) (.T .x0 (.k 1000000)))))) _ h h' (by assumption))
 generalize iabs z = a at h0 h1
 rw [Int.fdiv_eq_ediv_of_nonneg _ (by decide), Int.fmod_eq_emod_of_nonneg _ (by decide)]
 exact (Om.q 0 3 (.i (.L .k0 .x2) (.i (.T .x2 (.k 1000000)) (.i (.a (.L (.m 60 .x1) .x2) (.T .x2 (.a (.m 60 .x1) (.k 60)))) (.i (.E (.a (.m 60 .x1) .x0) .x2) (.a (.L .k0 .x1) (.a (.T .x1 (.k 1000000000)) (.a (.L .k0 .x0) (.T .x0 (.k 60)))))))))) _ _ _ h0 h1 (Om.zdv _ 60 rfl) (Int.mul_ediv_add_emod _ 60)
noncomputable def b7 (t : List Nat) : Option Int := match t with
 | [a, b, c, d, e] => if [43, 45].contains a && bE [b, c, d, e] && decide (digitsVal [d, e] <= 59) then some (if a = 45 then -((digitsVal [b, c] : Int) * 60 + digitsVal [d, e]) else (digitsVal [b, c] : Int) * 60 + digitsVal [d, e]) else none
 | _ => none
noncomputable def optV : Option Int -> V
 | none => .none
 | some i => .int i
noncomputable def zoneTab : List (List Nat × Int) := [(S "est", -5), (S "edt", -4), (S "cst", -6), (S "cdt", -5), (S "mst", -7), (S "mdt", -6), (S "pst", -8), (S "pdt", -7)]
noncomputable def zoneRows : List (Str × Int) := [("est", -5), ("edt", -4), ("cst", -6), ("cdt", -5), ("mst", -7), ("mdt", -6), ("pst", -8), ("pdt", -7)]
theorem zoneRows_tab : (zoneRows.map fun p => (p.1.cps.toList, p.2)) = zoneTab := by simp only [zoneRows, List.map_cons, List.map_nil, zoneTab]
theorem zoneRows_nodup : (zoneRows.map fun p => p.1.cps.toList).Nodup := by decide +kernel
noncomputable def eH (t : List Nat) : Bool := (lowT t).all fun c => decide (97 <= c) && decide (c <= 122)
noncomputable def bz (t : List Nat) : Option Int := if t = [] \/ eH t = false then none else some (((bG (lowT t) zoneTab).getD 0) * 60)
section
variable {G : Gx} {X : Fx} {σ : St} {Ψ : Ps} {Φ : V -> St -> Prop}
theorem kf (B : Base G) (o : X.Ok G) (hr : 2 <= X.room) {z : Int} (h0 : z < 1000000) (h1 : -1000000 < z) : PC G X (.glob "zone_text") [.int z] σ (.str (bd z)) := by
 obtain ⟨a1, a2, a3, a4⟩ := fd60 h0 h1
 have a5 : (iabs z).fmod 60 < 10 ^ 9 := by exact (Om.q 0 1 .f30) _ a3 a4
 have a6 := aG (w := 2) a1 a2 (by decide)
 have a7 := aG (w := 2) a3 a5 (by decide)
 have a8 : ((if (decide (z < 0)) = true then S "-" else S "+") ++ padI ((iabs z).fdiv 60) 2).length <= 120 := by
  rw [List.length_append]
  have : (if (decide (z < 0)) = true then S "-" else S "+").length = 1 := by split <;> rfl
  exact (Om.q 2 0 (.i (.l .x1 (.k 111)) (.i (.e .x0 .k1) (.l (.a .x0 .x1) (.k 120))))) _ _ a6 this
 have a9 : (if (decide (z < 0)) = true then S "-" else S "+").length + (padI ((iabs z).fdiv 60) 2).length <= 1000000 := by
  rw [List.length_append] at a8; exact (Om.q 2 0 (.i (.l (.a .x1 .x0) (.k 120)) (.l (.a .x1 .x0) (.k 1000000)))) _ _ a8
 dsimp only [iabs, S] at a1 a2 a3 a4 a5 a6 a7 a8 a9
 refine aq ["zone"] [] [("abs", .val (.builtin "abs")), ("padded", .glob "padded")] o (Om.lo hr) B.f_zone_text (by walk_at "dk") (.cons B.abs (.cons (av B.f_padded) .nil)) rfl fun X' o' hmd hh hr' => ?_
 dsimp only [mkLoc, List.map]
 apply ac
 ·walk_at "pe"
 ·exact ⟨rfl, rfl⟩
theorem jO (B : Base G) (o : X.Ok G) (hh0 : X.A.handled = none) (hr : 4 <= X.room) {t : List Nat} (hz : t.length <= 10000) (hb : ∀ c ∈ t, c < 256) : PC G X (.glob "named_zone") [.str t] σ (optV (bz t)) := by
 have hl : (lowT t).length <= 10000 := by unfold lowT; simpa using hz
 refine aq ["text"] ["hours"] [("lower_text", .glob "lower_text")] o (Om.lo hr) B.f_named_zone (by walk_at "dk") (.cons (av B.f_lower_text) .nil) (by unfold optV; cases bz t <;> rfl) fun X' o' hmd hh hr' => ?_
 dsimp only [mkLoc, List.map]
 refine az (c := decide (t = S "") || !((((lowT t).map fun c => V.str [c]).filter (ij (S "a") (S "z"))).map fun d => d).isEmpty) ?_ ?_ ?_
 ·with_reducible refine bB (ca (by walk_at "pe") fun hc => eY ?_)
  with_reducible refine bw (by walk_at "u") (a := .lst _) (b := .lst []) ?_ (by walk_at "pe") (pq_nen o')
  refine dJ [] (ij (S "a") (S "z")) (fun d => d) (d := .str (lowT t)) o' hmd (hh.trans hh0) (by rfl) .nil (fun _ _ => rfl) (fun _ => by walk_at "u") (by walk_at "pe") rfl rfl (by simp; exact Om.hi hl) ?_ ?_
  ·intro d hd X2 o2 hm2 hh2 hr2
   obtain ⟨c, hc, rfl⟩ := List.mem_map.mp hd
   show PT _ _ _ _ (!(!decide ([c] < S "a") && !decide (S "z" < [c])))
   walk_at "pe"
  ·intro d hd _ X2 o2 hm2 hh2 hr2
   walk_at "pe"
 ·intro hc
  with_reducible apply ac
  ·walk_at "pe"
  ·refine ⟨?_, rfl⟩
   rw [Sa, Sz, S_e, cq] at hc
   have : t = [] \/ eH t = false := by
    rcases (Bool.or_eq_true _ _).mp hc with h | h
    ·exact .inl (of_decide_eq_true h)
    ·right; simpa [eH] using h
   unfold bz
   rw [if_pos this]; rfl
 ·intro hc
  rw [Sa, Sz, S_e, cq] at hc
  have : ¬ (t = [] \/ eH t = false) := by
   rw [Bool.or_eq_false_iff] at hc
   rintro (h | h)
   ·simp [h] at hc
   ·have := hc.2
    unfold eH at h
    rw [h] at this; injection this
  with_reducible apply aa
  refine aw (d := .dict (kvV zoneTab)) o' hmd (by rfl) ?_ (by walk_at "h") ?_
  ·refine .i (ex_dict (r := zoneRows) o' (.neg (.neg (.neg (.neg (.neg (.neg (.neg (.neg .nil)))))))) rfl rfl (fun h => nomatch h) (by decide) zoneRows_nodup ?_)
   rw [zoneRows_tab]; exact ⟨rfl, rfl⟩
  with_reducible apply ac
  ·with_reducible apply ai
   ·with_reducible apply aI (by assumption) (by walk_at "u") ⟨_, fun _ => by walk_at "u"⟩
    ·with_reducible exact gx (by apply Fx.Ok.ek <;> assumption) (by walk_at "h")
    ·exact gm_get o'
    ·rfl
    ·walk_at "pe"
    ·exact pc_dget (l := zoneTab) o'
   ·with_reducible exact aj
   ·exact gB (by decide) (by decide)
  ·refine ⟨?_, rfl⟩
   unfold bz
   rw [if_neg this]; rfl
end
theorem Spm : S "+-" = [43, 45] := by decide +kernel
theorem Sm : S "-" = [45] := by decide +kernel
theorem len5 {t : List Nat} (h : t.length = 5) : ∃ a b c d e, t = [a, b, c, d, e] := by
 refine ofs (n := 4) (P := fun t : List Nat => ∃ a b c d e, t = [a, b, c, d, e]) (fun a => of4 (P := fun t => ∃ x b c d e, a :: t = [x, b, c, d, e]) fun b c d e => ⟨a, b, c, d, e, rfl⟩) t h
theorem gV {t : List Nat} (h : t.length ≠ 5) : b7 t = none := by
 rcases t with _ | ⟨a, _ | ⟨b, _ | ⟨c, _ | ⟨d, _ | ⟨e, _ | ⟨f, t⟩⟩⟩⟩⟩⟩ <;> first | rfl | exact absurd rfl h
theorem eS {a b c d e : Nat} : b7 [a, b, c, d, e] = if ([43, 45].contains a && bE [b, c, d, e] && decide (digitsVal [d, e] <= 59)) = true then some (if a = 45 then -((digitsVal [b, c] : Int) * 60 + digitsVal [d, e]) else (digitsVal [b, c] : Int) * 60 + digitsVal [d, e]) else none := rfl
section
variable {G : Gx} {X : Fx} {σ : St} {Ψ : Ps} {Φ : V -> St -> Prop}
theorem p_zone_in (B : Base G) (o : X.Ok G) (hh0 : X.A.handled = none) (hr : 3 <= X.room) {t : List Nat} (hz : t.length <= 10000) : PC G X (.glob "zone_in") [.str t] σ (optV (b7 t)) := by
 refine aq ["text"] ["minutes"] [("len", .val (.builtin "len")), ("is_figures", .glob "is_figures"), ("int", .val (.type "int"))] o (Om.lo hr) B.f_zone_in (by walk_at "dk") (.cons B.len (.cons (av B.f_is_figures) (.cons B.int .nil))) (by unfold optV; cases b7 t <;> rfl) fun X' o' hmd hh hr' => ?_
 dsimp only [mkLoc, List.map]
 by_cases h5 : t.length = 5
 ·obtain ⟨a, b, c, d, e, rfl⟩ := len5 h5
  refine az (c := decide ((([a, b, c, d, e] : List Nat).length : Int) ≠ 5) || (!(S "+-").contains a || (!bE [b, c, d, e] || decide (59 < (digitsVal [d, e] : Int))))) ?_ ?_ ?_
  ·with_reducible refine bB (ca (by walk_at "pe") fun h1 => ca ?_ fun h2 => ca ?_ fun h3 => eY ?_)
   ·with_reducible apply bw (by walk_at "u")
    ·with_reducible apply ar
     ·walk_at "pe"
     ·with_reducible exact aj
     ·exact pg_s (by decide) (by simp) rfl
    ·walk_at "pe"
    ·with_reducible exact pq_notins rfl
   ·with_reducible apply pt_not
    with_reducible apply jm (by walk_at "u")
    ·with_reducible apply bu (by assumption) (by walk_at "u")
     ·walk_at "pe"
     ·rfl
     ·with_reducible apply ah (by walk_at "u")
      ·with_reducible apply ce
       ·walk_at "pe"
       ·with_reducible exact aj
       ·exact hV (by simp) (by decide)
      ·with_reducible exact pa_nil
     ·exact fC (t := [b, c, d, e]) B o' (hh.trans hh0) (Om.rm hr hr') (by simp)
    ·exact pr_bool
   ·have hf := aZ (t := [b, c, d, e]) (by simpa using h3)
    with_reducible apply bw (by walk_at "u")
    ·with_reducible apply bu (by assumption) (by walk_at "u")
     ·walk_at "pe"
     ·rfl
     ·with_reducible apply ah (by walk_at "u")
      ·with_reducible apply ce
       ·walk_at "pe"
       ·with_reducible exact aj
       ·exact hV (by simp) (by decide)
      ·with_reducible exact pa_nil
     ·exact ej (b := [d, e]) hf.1.tail.tail (by simp) (by simp)
    ·with_reducible exact aj
    ·with_reducible exact pq_gt
  ·intro hc
   with_reducible apply ac
   ·walk_at "pe"
   ·refine ⟨?_, rfl⟩
    have : b7 [a, b, c, d, e] = none := by
     rw [eS]
     rw [Spm] at hc
     cases h1 : [43, 45].contains a
     ·rfl
     ·cases h2 : bE [b, c, d, e]
      ·rfl
      ·rw [h1, h2] at hc
       have h3 : ¬ digitsVal [d, e] <= 59 := by simp at hc; exact (Om.q 1 0 (.i (.T (.k 59) (.c .x0)) (.n (.l .x0 (.k 59))))) _ hc
       simp [h3]
    rw [this]; rfl
  ·intro hc
   rw [Spm] at hc
   have hz : b7 [a, b, c, d, e] = some (if a = 45 then -((digitsVal [b, c] : Int) * 60 + digitsVal [d, e]) else (digitsVal [b, c] : Int) * 60 + digitsVal [d, e]) := by
    rw [eS]
    cases h1 : [43, 45].contains a
    ·rw [h1] at hc; simp at hc
    ·cases h2 : bE [b, c, d, e]
     ·rw [h2] at hc; simp at hc
     ·rw [h1, h2] at hc
      have h3 : digitsVal [d, e] <= 59 := by simp at hc; exact (Om.q 1 0 (.i (.L (.c .x0) (.k 59)) (.l .x0 (.k 59)))) _ hc
      simp [h3]
   have hf : bE [b, c, d, e] = true := by
    cases h2 : bE [b, c, d, e]
    ·rw [h2] at hc; simp at hc
    ·rfl
   have hf := aZ hf
   have hbc : AllDigits [b, c] := fun x hx => hf.1 x (by simp at hx ⊢; rcases hx with h | h <;> simp [h])
   with_reducible apply aa
   refine aw (d := .int ((digitsVal [b, c] : Int) * 60 + digitsVal [d, e])) o' hmd (by rfl) ?_ (by walk_at "h") ?_
   ·with_reducible refine ai (a := .int ((digitsVal [b, c] : Int) * 60)) (b := .int (digitsVal [d, e])) ?_ ?_ fA
    ·with_reducible refine ai (a := .int (digitsVal [b, c])) (b := .int 60) ?_ aj (gB (by decide) (by decide))
     with_reducible apply bu (by assumption) (by walk_at "u")
     ·walk_at "pe"
     ·rfl
     ·with_reducible apply ah (by walk_at "u")
      ·with_reducible apply hZ
       ·walk_at "pe"
       ·with_reducible exact aj
       ·with_reducible exact aj
       ·exact ps_s2 (by simp) (by decide) (by decide) (by simp)
      ·with_reducible exact pa_nil
     ·exact ej (b := [b, c]) hbc (by simp) (by simp)
    ·with_reducible apply bu (by assumption) (by walk_at "u")
     ·walk_at "pe"
     ·rfl
     ·with_reducible apply ah (by walk_at "u")
      ·with_reducible apply ce
       ·walk_at "pe"
       ·with_reducible exact aj
       ·exact hV (by simp) (by decide)
      ·with_reducible exact pa_nil
     ·exact ej (b := [d, e]) hf.1.tail.tail (by simp) (by simp)
   with_reducible refine ac (v := .int (if (decide ([a] = S "-")) = true then -((digitsVal [b, c] : Int) * 60 + digitsVal [d, e]) else (digitsVal [b, c] : Int) * 60 + digitsVal [d, e])) ?_ ?_
   ·with_reducible apply gy
    ·with_reducible apply bw (by walk_at "u")
     ·with_reducible apply ar
      ·walk_at "pe"
      ·with_reducible exact aj
      ·exact pg_s (by decide) (by simp) rfl
     ·walk_at "pe"
     ·with_reducible exact pq_eqs
    ·intro _; walk_at "pe"
    ·intro _; walk_at "pe"
   ·refine ⟨?_, rfl⟩
    rw [hz, Sm]
    simp [optV]
 ·have hn := gV h5
  refine az (c := decide (((t.length : Nat) : Int) ≠ 5) || true) ?_ ?_ ?_
  ·with_reducible refine bB (ca (by walk_at "pe") fun h1 => ?_)
   exfalso
   simp at h1
   exact (Om.q 1 0 .f60) _ h5 h1
  ·intro _
   with_reducible apply ac
   ·walk_at "pe"
   ·exact ⟨by rw [hn]; rfl, rfl⟩
  ·intro hc
   simp at hc
noncomputable def names12 : List (List Nat) := [S "Jan", S "Feb", S "Mar", S "Apr", S "May", S "Jun", S "Jul", S "Aug", S "Sep", S "Oct", S "Nov", S "Dec"]
noncomputable def names7 : List (List Nat) := [S "Mon", S "Tue", S "Wed", S "Thu", S "Fri", S "Sat", S "Sun"]
noncomputable def low12 : List (List Nat) := names12.map lowT
noncomputable def low7 : List (List Nat) := names7.map lowT
noncomputable def lowV : V -> V
 | .str s => .str (lowT s)
 | d => d
noncomputable def aC (t : List Nat) : Nat := if low12.contains (lowT t) = true then low12.idxOf (lowT t) + 1 else 0
theorem names12_ok : ∀ s ∈ names12, s.length <= 10 /\ ∀ c ∈ s, c < 256 := by decide +kernel
theorem names7_ok : ∀ s ∈ names7, s.length <= 10 /\ ∀ c ∈ s, c < 256 := by decide +kernel
theorem idx_first {k : List Nat} : ∀ {l : List (List Nat)}, k ∈ l -> l[l.idxOf k]? = some k /\ ∀ i, i < l.idxOf k -> l[i]? ≠ some k := by
 intro l
 induction l with
 | nil => intro h; cases h
 | cons a r ih =>
  intro h
  rw [List.idxOf_cons]
  by_cases hk : a = k
  ·subst hk
   simp
  ·have hb : (a == k) = false := by simpa using hk
   rw [hb]
   have hm : k ∈ r := by
    rcases List.mem_cons.mp h with h | h
    ·exact absurd h.symm hk
    ·exact h
   obtain ⟨i1, i2⟩ := ih hm
   refine ⟨by simpa using i1, fun i hi => ?_⟩
   cases i with
   | zero => simp [hk]
   | succ i => simpa using i2 i (by simpa using hi)
theorem jq (B : Base G) (o : X.Ok G) (hh0 : X.A.handled = none) (hr : 3 <= X.room) {t : List Nat} (hz : t.length <= 10000) (hb : ∀ c ∈ t, c < 256) : PC G X (.glob "is_day_name") [.str t] σ (.bool (low7.contains (lowT t))) := by
 refine aq ["text"] [] [("lower_text", .glob "lower_text"), ("DAYS", .tup (names7.map .str))] o (Om.lo hr) B.f_is_day_name (by walk_at "dk") (.cons (av B.f_lower_text) (.cons B.DAYS .nil)) rfl fun X' o' hmd hh hr' => ?_
 dsimp only [mkLoc, List.map]
 apply ac
 ·with_reducible apply cS (by walk_at "u")
  ·walk_at "pe"
  ·refine bV [("lower_text", .glob "lower_text")] lowV (d := .tup (names7.map .str)) o' hmd (hh.trans hh0) (by rfl) (.cons (av B.f_lower_text) .nil) (fun _ _ => rfl) (fun _ => by walk_at "u") ?_ rfl rfl (by decide) ?_
   ·with_reducible exact au (by assumption) (by walk_at "h")
   ·intro d hd X2 o2 hm2 hh2 hr2
    obtain ⟨c, hc, rfl⟩ := List.mem_map.mp hd
    obtain ⟨h1, h2⟩ := names7_ok c hc
    have h1' : c.length <= 10000 := by exact Om.hi h1
    show PE _ _ _ _ (.str (lowT c))
    walk_at "pe"
  ·exact pq_inls o' (bs := low7) (by
    rw [List.map_map]
    exact bL low7)
 ·exact ⟨rfl, rfl⟩
theorem iZ (B : Base G) (o : X.Ok G) (hh0 : X.A.handled = none) (hr : 3 <= X.room) {t : List Nat} (hz : t.length <= 10000) (hb : ∀ c ∈ t, c < 256) : PC G X (.glob "month_number") [.str t] σ (.int (aC t)) := by
 refine fz ["text"] ["names"] [("lower_text", .glob "lower_text"), ("MONTHS", .tup (names12.map .str))] o (Om.lo hr) B.f_month_number (by walk_at "dk") (.cons (av B.f_lower_text) (.cons B.MONTHS .nil)) rfl fun X' o' hmd hh hr' hsc => ?_
 dsimp only [mkLoc, List.map]
 have e12 : (names12.map V.str).map lowV = low12.map .str := by
  unfold low12
  rw [List.map_map, List.map_map]
  rfl
 refine gr [("lower_text", .glob "lower_text")] lowV (d := .tup (names12.map .str)) o' hmd (hh.trans hh0) (by rfl) (.cons (av B.f_lower_text) .nil) (fun _ _ => rfl) (fun _ => by walk_at "u") (by rw [dD hmd]; unfold Fx.fenv; rw [hsc]; with_unfolding_all rfl) ?_ rfl rfl (by decide) ?_ (by walk_at "h") ?_
 ·with_reducible exact au (by assumption) (by walk_at "h")
 ·intro d hd X2 o2 hm2 hh2 hr2
  obtain ⟨c, hc, rfl⟩ := List.mem_map.mp hd
  obtain ⟨h1, h2⟩ := names12_ok c hc
  have h1' : c.length <= 10000 := by exact Om.hi h1
  show PE _ _ _ _ (.str (lowT c))
  walk_at "pe"
 rw [e12]
 with_reducible refine ac (v := .int (if (low12.contains (lowT t)) = true then ((low12.idxOf (lowT t) : Nat) : Int) + 1 else 0)) ?_ ?_
 ·with_reducible apply gy
  ·with_reducible apply bw (by walk_at "u")
   ·walk_at "pe"
   ·walk_at "pe"
   ·with_reducible exact pq_inls o' (bL low12)
  ·intro hc
   have hm : lowT t ∈ low12 := by simpa using hc
   obtain ⟨i1, i2⟩ := idx_first hm
   with_reducible refine ai (a := .int (low12.idxOf (lowT t) : Nat)) ?_ aj fA
   with_reducible apply aI (by assumption) (by walk_at "u") ⟨_, fun _ => by walk_at "u"⟩
   ·with_reducible exact gx (by apply Fx.Ok.ek <;> assumption) (by walk_at "h")
   ·exact gm_index o'
   ·rfl
   ·walk_at "pe"
   ·exact pc_index o' (bL low12) (by decide) i1 i2
  ·intro _; exact aj
 ·refine ⟨?_, rfl⟩
  unfold aC
  by_cases h : low12.contains (lowT t) = true
  ·rw [if_pos h, if_pos h]; rfl
  ·rw [if_neg h, if_neg h]; rfl
end
local macro_rules | `(tactic| walk_at "own") => `(tactic| (first | apply kh | apply kP) <;> walk_at "sd")
theorem bn {G : Gx} {σ σ' : St} {v : V} {r : Except Int (V × List (Option MO))} (hcl : af σ.heap.length σ.heap = true) (e : σ'.heap = σ.heap) (hr : r = .ok (v, σ.heap)) (hc : v.closed σ.heap.length = true) :
  RPost σ r (.ret v) σ' :=
 ⟨v, v, σ.heap, σ.heap.length, rfl, rfl, hr, Nat.le_refl _, by rw [e, List.take_length], hc, hcl⟩
theorem bx {G : Gx} {σ σ' : St} {v : V} {r : Except Int (V × List (Option MO))} (hcl : af σ.heap.length σ.heap = true) (e : σ'.heap.take σ.heap.length = σ.heap) (hr : r = .ok (v, σ.heap)) (hc : v.closed σ.heap.length = true) :
  RPost σ r (.ret v) σ' :=
 ⟨v, v, σ.heap, σ.heap.length, rfl, rfl, hr, Nat.le_refl _, e, hc, hcl⟩
noncomputable abbrev never : List Int := [0, 10, 13]
noncomputable def insR (b : List UInt8) (p begun : Int) : Except Int (List UInt8 × Int) :=
 if (decide ((b.length : Int) <= p) || (decide (byB b p = 92) && decide (p + 1 = b.length))) = true then .error begun
 else if decide (byB b p = 92) = true then (if never.contains (byB b (p + 1)) = true then .error p else .ok (slB b (p + 1) (p + 2), p + 2))
 else if decide (0 <= aL b p) = true then .ok ([], aL b p)
 else if never.contains (byB b p) = true then .error p
 else .ok (slB b p (p + 1), p + 1)
noncomputable def rcP (H : List (Option MO)) (r : Except Int (List UInt8 × Int)) : Except Int (V × List (Option MO)) := match r with
 | .ok (w, q) => .ok (.tup [.bytes w, .int q], H)
 | .error a => .error a
section
variable {G : Gx} {X : Fx} {σ : St} {Ψ : Ps} {Φ : V -> St -> Prop}
theorem eW (B : Base G) (o : X.Ok G) (hf : X.md = .fr) (hh0 : X.A.handled = none) (hr : 4 <= X.room) {b : List UInt8} {p begun : Int} (hz : b.length <= 10000) (h0 : 0 <= p) : RC G X (.glob "inside_at") [.bytes b, .int p, .int begun] σ (rcP σ.heap (insR b p begun)) := by
 have hz' : b.length <= 100000 := by exact Om.hi hz
 refine rdef ["data", "at", "begun"] ["behind"] [("len", .val (.builtin "len")), ("WordFault", .glob "WordFault"), ("NEVER_ESCAPED", .tup [.int 0, .int 10, .int 13]), ("line_end", .glob "line_end")] o hf (Om.lo hr) B.f_inside_at (by walk_at "dk")
  (.cons B.len (.cons B.word.gls (.cons B.NEVER (.cons (av B.f_line_end) .nil)))) fun X' o' hmd hh hr' hsc hcl => ?_
 dsimp only [mkLoc, List.map]
 apply az
 ·walk_at "pe"
 ·intro hc
  refine bl B.word o' hmd (hh.trans hh0) (Om.rm hr hr') (by rfl) (by walk_at "h") (by walk_at "pe") ⟨_, .inl rfl⟩ ?_
  unfold insR; rw [if_pos hc]; rfl
 ·intro hc
  have hlt : p < b.length := by simp at hc; exact (Om.q 1 2 (.i (.a (.T .x1 (.c .x0)) (.i (.E .x0 (.k 92)) (.n (.E (.a .x1 .k1) (.c .x0))))) (.T .x1 (.c .x0)))) _ _ _ hc
  with_reducible apply aa
  with_reducible apply az
  ·walk_at "pe"
  ·intro hc2
   have hlt2 : p + 1 < b.length := by simp at hc hc2; exact (Om.q 1 2 (.i (.T .x1 (.c .x0)) (.i (.a (.T .x1 (.c .x0)) (.i (.E .x0 (.k 92)) (.n (.E (.a .x1 .k1) (.c .x0))))) (.i (.E .x0 (.k 92)) (.T (.a .x1 .k1) (.c .x0)))))) _ _ _ hlt hc hc2
   with_reducible apply az
   ·walk_at "pe"
   ·intro hc3
    refine bl B.word o' hmd (hh.trans hh0) (Om.rm hr hr') (by rfl) (by walk_at "h") (by walk_at "pe") ⟨_, .inl rfl⟩ ?_
    unfold insR; rw [if_neg (by rw [hc]; decide), if_pos hc2, if_pos hc3]; rfl
   ·intro hc3
    with_reducible apply aa
    with_reducible apply ac
    ·walk_at "pe"
    ·refine bn (G := G) hcl rfl ?_ rfl
     unfold insR; rw [if_neg (by rw [hc]; decide), if_pos hc2, if_neg (by rw [hc3]; decide)]; rfl
  ·intro hc2
   with_reducible apply aa
   apply aw o' hmd (by rfl)
   ·walk_at "pe"
   ·walk_at "h"
   with_reducible apply az
   ·walk_at "pe"
   ·intro hc3
    with_reducible apply ac
    ·walk_at "pe"
    ·refine bn (G := G) hcl rfl ?_ rfl
     unfold insR; rw [if_neg (by rw [hc]; decide), if_neg (by rw [hc2]; decide), if_pos hc3]; rfl
   ·intro hc3
    with_reducible apply aa
    with_reducible apply az
    ·walk_at "pe"
    ·intro hc4
     refine bl B.word o' hmd (hh.trans hh0) (Om.rm hr hr') (by rfl) (by walk_at "h") (by walk_at "pe") ⟨_, .inl rfl⟩ ?_
     unfold insR; rw [if_neg (by rw [hc]; decide), if_neg (by rw [hc2]; decide), if_neg (by rw [hc3]; decide), if_pos hc4]; rfl
    ·intro hc4
     with_reducible apply aa
     with_reducible apply ac
     ·walk_at "pe"
     ·refine bn (G := G) hcl rfl ?_ rfl
      unfold insR; rw [if_neg (by rw [hc]; decide), if_neg (by rw [hc2]; decide), if_neg (by rw [hc3]; decide), if_neg (by rw [hc4]; decide)]; rfl
end
theorem slB_one {b : List UInt8} {p : Int} : (slB b p (p + 1)).length <= 1 := by
 unfold slB
 rw [List.length_take]
 refine Nat.le_trans (Nat.min_le_left _ _) ?_
 exact (Om.q 3 1 (.i (.o (.a (.L .k0 (.a .x0 .k1)) (.E (.c .x1) (.a .x0 .k1))) (.a (.T (.a .x0 .k1) .k0) (.e .x1 .k0))) (.i (.o (.a (.L .k0 .x0) (.E (.c .x0) .x0)) (.a (.T .x0 .k0) (.e .x0 .k0))) (.i (.o (.a (.l .x0 .x1) (.e (.a .x2 .x0) .x1)) (.a (.t .x1 .x0) (.e .x2 .k0))) (.l .x2 .k1))))) ((p + 1).toNat - p.toNat) ((p + 1).toNat) p.toNat p (by exact (Om.tno _)) (by exact (Om.tno _)) (by exact (Om.sbo _ _))
theorem slB_two {b : List UInt8} {p : Int} : (slB b (p + 1) (p + 2)).length <= 1 := by
 unfold slB
 rw [List.length_take]
 refine Nat.le_trans (Nat.min_le_left _ _) ?_
 exact (Om.q 3 1 (.i (.o (.a (.L .k0 (.a .x0 (.k 2))) (.E (.c .x1) (.a .x0 (.k 2)))) (.a (.T (.a .x0 (.k 2)) .k0) (.e .x1 .k0))) (.i (.o (.a (.L .k0 (.a .x0 .k1)) (.E (.c .x0) (.a .x0 .k1))) (.a (.T (.a .x0 .k1) .k0) (.e .x0 .k0))) (.i (.o (.a (.l .x0 .x1) (.e (.a .x2 .x0) .x1)) (.a (.t .x1 .x0) (.e .x2 .k0))) (.l .x2 .k1))))) ((p + 2).toNat - (p + 1).toNat) ((p + 2).toNat) ((p + 1).toNat) p (by exact (Om.tno _)) (by exact (Om.tno _)) (by exact (Om.sbo _ _))
theorem hH {b : List UInt8} {p q : Int} (h : 0 <= p) {n : Nat} (hl : (slB b p q).length = n) (hn : 0 < n) : p + n <= b.length := by
 unfold slB at hl
 rw [List.length_take, List.length_drop] at hl
 have hl : n <= b.length - p.toNat := hl ▸ Nat.min_le_right _ _
 exact (Om.q 4 1 (.i (.L .k0 .x0) (.i (.t .k0 .x3) (.i (.l .x3 .x2) (.i (.o (.a (.L .k0 .x0) (.E (.c .x0) .x0)) (.a (.T .x0 .k0) (.e .x0 .k0))) (.i (.o (.a (.l .x0 .x1) (.e (.a .x2 .x0) .x1)) (.a (.t .x1 .x0) (.e .x2 .k0))) (.L (.a .x0 (.c .x3)) (.c .x1)))))))) _ (Nat.sub _ _) _ (Int.toNat _) _ h hn hl (by exact (Om.tno _)) (by exact (Om.sbo _ _))
theorem kY {b : List UInt8} {p : Int} (h0 : 0 <= p) (h : 0 <= aL b p) : (aL b p = p + 1 \/ aL b p = p + 2) /\ aL b p <= b.length := by
 unfold aL at h ⊢
 split
 ·rename_i e
  have := hH h0 (n := 1) (by rw [e]; rfl) (by decide)
  exact ⟨.inl rfl, by exact (Om.q 1 1 (.i (.L (.a .x0 (.c .k1)) (.c .x0)) (.L (.a .x0 .k1) (.c .x0)))) _ _ this⟩
 ·split
  ·rename_i e
   have := hH h0 (n := 2) (by rw [e]; rfl) (by decide)
   exact ⟨.inr rfl, by exact (Om.q 1 1 (.i (.L (.a .x0 (.c (.k 2))) (.c .x0)) (.L (.a .x0 (.k 2)) (.c .x0)))) _ _ this⟩
  ·rename_i e1 e2
   rw [if_neg e1, if_neg e2] at h
   exact (Om.q 1 1 (.i (.L .k0 (.g .k1)) (.a (.o (.E (.g .k1) (.a .x0 .k1)) (.E (.g .k1) (.a .x0 (.k 2)))) (.L (.g .k1) (.c .x0))))) _ _ h
theorem iteE {α : Type} {c : Prop} [Decidable c] {a b r : α} {P : Prop} (h : (if c then a else b) = r) (h1 : c -> a = r -> P) (h2 : ¬ c -> b = r -> P) : P := by
 by_cases q : c
 ·exact h1 q ((if_pos q).symm.trans h)
 ·exact h2 q ((if_neg q).symm.trans h)
section
variable {ε α β : Type}
theorem erE {a : ε} {b : α} {P : Prop} (h : Except.error a = .ok b) : P := nomatch h
theorem okE {a b : α} {P : α -> Prop} (h : (Except.ok a : Except ε α) = .ok b) (p : P a) : P b := Except.ok.inj h ▸ p
theorem okE2 {a c : α} {b d : β} {P : α -> β -> Prop} (h : (Except.ok (a, b) : Except ε (α × β)) = .ok (c, d)) (p : P a b) : P c d := by obtain ⟨rfl, rfl⟩ := Prod.mk.inj (Except.ok.inj h); exact p
end
theorem fZ {b : List UInt8} {p begun : Int} {w : List UInt8} {q : Int} (h0 : 0 <= p) (h : insR b p begun = .ok (w, q)) : w.length <= 1 /\ p + 1 <= q /\ q <= p + 2 /\ q <= b.length := by
 refine iteE h (fun _ => erE) fun c1 h => ?_
 have c1 := Bool.or_eq_false_iff.mp (Bool.eq_false_iff.mpr c1)
 have c0 := Int.not_le.mp (of_decide_eq_false c1.1)
 have p1 : p + 1 <= p + 2 := Int.add_le_add_left (by decide) p
 refine iteE h (fun c2 h => iteE h (fun _ => erE) fun _ h => ?_) fun _ h => iteE h (fun c3 h => ?_) fun _ h => iteE h (fun _ => erE) fun _ h => ?_
 ·obtain ⟨rfl, rfl⟩ := Prod.mk.inj (Except.ok.inj h)
  refine ⟨slB_two, p1, Int.le_refl _, ?_⟩
  have c4 : ¬ p + 1 = b.length := fun e => by rw [c2, decide_eq_true e] at c1; exact Bool.noConfusion c1.2
  exact (Om.q 1 1 (.i (.T .x0 (.c .x0)) (.i (.n (.E (.a .x0 .k1) (.c .x0))) (.L (.a .x0 (.k 2)) (.c .x0))))) _ _ c0 c4
 ·obtain ⟨rfl, rfl⟩ := Prod.mk.inj (Except.ok.inj h)
  obtain ⟨h1, h2⟩ := kY h0 (of_decide_eq_true c3)
  refine ⟨Nat.zero_le 1, (Om.q 0 2 (.i (.o (.E .x1 (.a .x0 .k1)) (.E .x1 (.a .x0 (.k 2)))) (.L (.a .x0 .k1) .x1))) _ _ h1, (Om.q 0 2 (.i (.o (.E .x1 (.a .x0 .k1)) (.E .x1 (.a .x0 (.k 2)))) (.L .x1 (.a .x0 (.k 2))))) _ _ h1, h2⟩
 ·obtain ⟨rfl, rfl⟩ := Prod.mk.inj (Except.ok.inj h)
  exact ⟨slB_one, Int.le_refl _, p1, Int.add_one_le_of_lt c0⟩
theorem e7 {b : List UInt8} {p begun : Int} (h : (b.length : Int) <= p) : insR b p begun = .error begun := by
 unfold insR
 rw [if_pos]
 simp [h]
theorem slB_end {b : List UInt8} {p : Int} (h : (b.length : Int) <= p) : slB b p (p + 1) = [] := by
 unfold slB
 rw [List.drop_of_length_le (by exact (Om.q 2 1 (.i (.L (.c .x1) .x0) (.i (.o (.a (.L .k0 .x0) (.E (.c .x0) .x0)) (.a (.T .x0 .k0) (.e .x0 .k0))) (.l .x1 .x0)))) _ _ _ h (Om.tno _))]; simp
noncomputable def bQ (b : List UInt8) (begun : Int) (closing barred : List UInt8) : Nat -> Int -> Except Int (List (List UInt8) × Int)
 | 0, _ => .error begun
 | n + 1, p => if slB b p (p + 1) = closing then .ok ([], p) else
  if (decide (p < b.length) && barred.contains (byB b p).toNat.toUInt8) = true then .error p else
  match insR b p begun with
  | .error a => .error a
  | .ok (w, q) => match bQ b begun closing barred n q with
   | .error a => .error a
   | .ok (ws, e) => .ok (w :: ws, e)
noncomputable def dB (b : List UInt8) (begun : Int) (closing barred : List UInt8) : Except Int (List UInt8 × Int) := match bQ b begun closing barred (b.length + 1) (begun + 1) with
 | .error a => .error a
 | .ok (ws, e) => .ok (ws.flatten, e + 1)
noncomputable def cy (b : List UInt8) (begun : Int) : Nat -> Int -> Int -> Except Int (List (List UInt8) × Int)
 | 0, d, p => if 0 < d then .error begun else .ok ([], p)
 | n + 1, d, p => if 0 < d then
   (if slB b p (p + 1) = [40] /\ 20 < d + 1 then .error p else
   match insR b p begun with
   | .error a => .error a
   | .ok (w, q) => match cy b begun n (if slB b p (p + 1) = [40] then d + 1 else if slB b p (p + 1) = [41] then d - 1 else d) q with
    | .error a => .error a
    | .ok (ws, e) => .ok (w :: ws, e))
  else .ok ([], p)
noncomputable def cJ (b : List UInt8) (begun : Int) : Except Int (List UInt8 × Int) := match cy b begun (b.length + 1) 1 (begun + 1) with
 | .error a => .error a
 | .ok (ws, e) => .ok (ws.dropLast.flatten, e)
noncomputable def go {α : Type} (r r0 : Except Int (List α × Int)) (ws : List α) : Prop := match r with
 | .error a => r0 = .error a
 | .ok (us, e) => r0 = .ok (ws ++ us, e)
section
variable {G : Gx} {X : Fx} {σ : St} {Ψ : Ps} {Φ : V -> St -> Prop}
theorem aM {H : List (Option MO)} {x : Option MO} : (H ++ [x])[H.length]? = some x := by simp
theorem aF {H : List (Option MO)} {x y : Option MO} : (H ++ [x]).set H.length y = H ++ [y] := by
 rw [List.set_append_right _ _ (Nat.le_refl _), Nat.sub_self]; rfl
theorem iA {α : Type} {ws : List (List α)} {w : List α} : (ws ++ [w]).flatten.length = ws.flatten.length + w.length := by rw [List.flatten_append, List.length_append]; simp
theorem gj {H : List (Option MO)} {x : Option MO} : (H ++ [x]).take H.length = H := by simp
inductive ClI (b : List UInt8) (begun : Int) (closing barred : List UInt8) (σ : St) (r0 : Except Int (List (List UInt8) × Int)) (n : Nat) (σ' : St) : Prop
 | mk (p : Int) (ws : List (List UInt8)) (ov : Option V) (h0 : σ' = ⟨[("data", some (.bytes b)), ("begun", some (.int begun)), ("closing", some (.bytes closing)), ("barred", some (.bytes barred)), ("parts", some (.loc σ.heap.length)), ("at", some (.int p)), ("octets", ov)], [("len", .val (.builtin "len")), ("WordFault", .glob "WordFault"), ("inside_at", .glob "inside_at")], σ.heap ++ [some (.list (ws.map .bytes))]⟩) (h1 : 0 <= p) (h2 : p <= b.length) (h3 : (b.length : Int) <= p + n) (h4 : (ws.flatten.length : Int) <= p) (h5 : (ws.length : Int) <= p) (h6 : go (bQ b begun closing barred n p) r0 ws)
theorem eX (B : Base G) (o : X.Ok G) (hf : X.md = .fr) (hh0 : X.A.handled = none) (hr : 5 <= X.room) {b closing barred : List UInt8} {begun : Int} (hz : b.length <= 10000) (h0 : 0 <= begun) (hlt : begun < b.length) (hc : closing ≠ []) : RC G X (.glob "closed_at") [.bytes b, .int begun, .bytes closing, .bytes barred] σ (rcP σ.heap (dB b begun closing barred)) := by
 have hz' : b.length <= 100000 := by exact Om.hi hz
 unfold dB
 obtain ⟨r0, hr0⟩ : ∃ y, bQ b begun closing barred (b.length + 1) (begun + 1) = y := ⟨_, rfl⟩
 rw [hr0]
 refine rdef ["data", "begun", "closing", "barred"] ["parts", "at", "octets"] [("len", .val (.builtin "len")), ("WordFault", .glob "WordFault"), ("inside_at", .glob "inside_at")] o hf (Om.lo hr) B.f_closed_at (by walk_at "dk")
  (.cons B.len (.cons B.word.gls (.cons (av B.f_inside_at) .nil))) fun X' o' hmd hh hr' hsc hcl => ?_
 dsimp only [mkLoc, List.map]
 apply bb o' hmd (by rfl)
 with_reducible refine cG pa_nil (by decide) ⟨_, by walk_at "h", ?_⟩
 dsimp only
 apply aw o' hmd (by rfl)
 ·walk_at "pe"
 ·walk_at "h"
 with_reducible refine ay (dH o' hmd (ClI b begun closing barred σ r0) (b.length + 1) ?_ ?_)
 ·refine ⟨begun + 1, [], none, rfl, by exact (Om.q 0 1 .f0) _ h0, by exact (Om.q 1 1 .f5) _ _ hlt, by exact (Om.q 1 1 .f61) _ _ h0, by simp; exact (Om.q 0 1 .f0) _ h0, by simp; exact (Om.q 0 1 .f0) _ h0, ?_⟩
  rw [hr0]
  unfold go
  cases r0 with
  | error a => rfl
  | ok x => rfl
 ·rintro n σ' ⟨p, ws, ov, rfl, i1, i2, i3, i4, i5, i6⟩
  with_reducible refine de (c := decide (slB b p (p + 1) ≠ closing)) (by walk_at "pe") ⟨fun hc1 => ?_, fun hc1 => ?_⟩
  ·have hc1 : slB b p (p + 1) ≠ closing := by simpa using hc1
   with_reducible apply az
   ·walk_at "pe"
   ·intro hc2
    refine bl B.word o' hmd (hh.trans hh0) (Om.rm hr hr') (by rfl) (by walk_at "h") (by walk_at "pe") ⟨_, .inl rfl⟩ ?_
    have hp : p < b.length := by simp at hc2; omega
    obtain ⟨n, rfl⟩ : ∃ m, n = m + 1 := ⟨n - 1, by exact (Om.q 3 1 .f62) _ _ _ _ i3 hp (Om.sbo _ _)⟩
    unfold go bQ at i6
    rw [if_neg hc1, if_pos hc2] at i6
    rw [i6]; rfl
   ·intro hc2
    with_reducible apply aa
    cases hi : insR b p begun with
    | error a' =>
     refine br o' hmd (hh.trans hh0) (by walk_at "u") (fun _ => by walk_at "u") (fun _ => by walk_at "u") (bA o' (by rfl) (by walk_at "pe") rfl (by walk_at "pe") ((eW (b := b) (p := p) (begun := begun) B o' hmd (hh.trans hh0) (Om.rm hr hr') hz i1).err (congrArg _ hi) ?_))
     cases n with
     | zero =>
      rw [e7 (by exact (Om.q 1 1 .f20) _ _ i2 i3)] at hi
      cases hi
      unfold go bQ at i6
      rw [i6]; rfl
     | succ n =>
      unfold go bQ at i6
      rw [if_neg hc1, if_neg (by rw [hc2]; decide), hi] at i6
      rw [i6]; rfl
    | ok x =>
     obtain ⟨w, q⟩ := x
     refine br o' hmd (hh.trans hh0) (by walk_at "u") (fun _ => by walk_at "u") (fun _ => by walk_at "u") (bA o' (by rfl) (by walk_at "pe") rfl (by walk_at "pe") ((eW (b := b) (p := p) (begun := begun) B o' hmd (hh.trans hh0) (Om.rm hr hr') hz i1).ok (congrArg _ hi) ?_))
     obtain ⟨j1, j2, j3, j4⟩ := fZ i1 hi
     refine ⟨_, _, rfl, rfl, by walk_at "h", ?_⟩
     apply bI o' hmd (by rfl)
     refine cY (ds := ws.map .bytes) (i := σ.heap.length) (d := .bytes w) o' (by rfl) ⟨_, fun _ => by walk_at "u"⟩ (by walk_at "pe") (by walk_at "pe") aM (by simp; exact (Om.q 2 1 .f31) _ _ _ hz i1 i2 i5) ?_
     dsimp only
     rw [aF]
     with_reducible apply aa
     obtain ⟨n, rfl⟩ : ∃ m, n = m + 1 := by
      refine ⟨n - 1, ?_⟩
      rcases Nat.eq_zero_or_pos n with z | z
      ·exfalso; subst z; rw [e7 (by exact (Om.q 1 2 .f63) _ _ _ i2 j2 j3 j4 i3)] at hi; injection hi
      ·exact (Om.q 2 0 .f21) _ _ z (Om.sbo _ _)
     refine ⟨n, Nat.lt_succ_self n, q, ws ++ [w], some (.bytes w), by simp, by exact (Om.q 1 2 .f64) _ _ _ hz i1 i2 j2 j3, j4, by exact (Om.q 2 2 .f65) _ _ _ _ j2 j3 i3, by rw [iA]; exact (Om.q 2 2 .f66) _ _ _ _ i4 j1 j2 j3, by simp; exact (Om.q 1 2 .f67) _ _ _ i5 j2 j3, ?_⟩
     unfold go bQ at i6
     rw [if_neg hc1, if_neg (by rw [hc2]; decide), hi] at i6
     unfold go
     dsimp only at i6
     cases hf : bQ b begun closing barred n q with
     | error a => rw [hf] at i6; exact i6
     | ok x => rw [hf] at i6; simpa using i6
  ·have hc1 : slB b p (p + 1) = closing := by simpa using hc1
   obtain ⟨n, rfl⟩ : ∃ m, n = m + 1 := by
    refine ⟨n - 1, ?_⟩
    rcases Nat.eq_zero_or_pos n with z | z
    ·exfalso; subst z; rw [slB_end (by exact (Om.q 1 1 .f20) _ _ i2 i3)] at hc1; exact hc hc1.symm
    ·exact (Om.q 2 0 .f21) _ _ z (Om.sbo _ _)
   with_reducible refine ac (v := .tup [.bytes ws.flatten, .int (p + 1)]) ?_ ?_
   ·with_reducible apply bU
    ·apply ah (by rfl)
     ·with_reducible apply aI (by assumption) (by walk_at "u") ⟨_, fun _ => by walk_at "u"⟩ gz e8 rfl
      ·walk_at "pe"
      ·exact pc_joinbl (bs := ws) aM ((Om.q 2 1 .f31) _ _ _ hz i1 i2 i4)
     ·walk_at "pe"
    ·simp
   ·refine bx (G := G) hcl gj ?_ rfl
    unfold go bQ at i6
    rw [if_pos hc1] at i6
    rw [i6]; simp [rcP]
end
noncomputable def wh : List UInt8 -> Nat
 | [] => 0
 | [c] => if c = 9 \/ c = 32 then 1 else if c = 10 then 1 else 0
 | c :: d :: r => if c = 9 \/ c = 32 then 1 + wh (d :: r) else if c = 10 then 1 + wh (d :: r) else if c = 13 /\ d = 10 then 2 + wh r else 0
noncomputable def whAt (b : List UInt8) (p : Int) : Int := p + wh (b.drop p.toNat)
theorem ez {α : Type} [Inhabited α] {b : List α} {n : Nat} (h : n < b.length) : ∃ c, b.drop n = c :: b.drop (n + 1) /\ b[n]? = some c := by
 refine ⟨b[n], List.drop_eq_getElem_cons h, List.getElem?_eq_getElem h⟩
theorem iR {b : List UInt8} {p : Int} {c : UInt8} {r : List UInt8} (h0 : 0 <= p) (h : b.drop p.toNat = c :: r) : byB b p = (c.toNat : Int) := by
 unfold byB
 have : b.getD p.toNat 0 = c := by
  have h1 : (b.drop p.toNat)[0]? = some c := by rw [h]; rfl
  rw [List.getElem?_drop, Nat.add_zero] at h1
  rw [List.getD_eq_getElem?_getD, h1]; rfl
 rw [this]
theorem jf {b : List UInt8} {p : Int} {c : UInt8} {r : List UInt8} (h0 : 0 <= p) (h : b.drop p.toNat = c :: r) : slB b p (p + 1) = [c] := by
 unfold slB
 rw [h, show (p + 1).toNat - p.toNat = 1 by exact (Om.q 3 1 (.i (.L .k0 .x0) (.i (.o (.a (.L .k0 (.a .x0 .k1)) (.E (.c .x1) (.a .x0 .k1))) (.a (.T (.a .x0 .k1) .k0) (.e .x1 .k0))) (.i (.o (.a (.L .k0 .x0) (.E (.c .x0) .x0)) (.a (.T .x0 .k0) (.e .x0 .k0))) (.i (.o (.a (.l .x0 .x1) (.e (.a .x2 .x0) .x1)) (.a (.t .x1 .x0) (.e .x2 .k0))) (.e .x2 .k1)))))) ((p + 1).toNat - p.toNat) ((p + 1).toNat) p.toNat p h0 (by exact (Om.tno _)) (by exact (Om.tno _)) (by exact (Om.sbo _ _))]; rfl
theorem slB_get2 {b : List UInt8} {p : Int} {c d : UInt8} {r : List UInt8} (h0 : 0 <= p) (h : b.drop p.toNat = c :: d :: r) : slB b p (p + 2) = [c, d] := by
 unfold slB
 rw [h, show (p + 2).toNat - p.toNat = 2 by exact (Om.q 3 1 .f68) ((p + 2).toNat - p.toNat) ((p + 2).toNat) p.toNat p h0 (by exact (Om.tno _)) (by exact (Om.tno _)) (by exact (Om.sbo _ _))]; rfl
theorem slB_get21 {b : List UInt8} {p : Int} {c : UInt8} (h0 : 0 <= p) (h : b.drop p.toNat = [c]) : slB b p (p + 2) = [c] := by
 unfold slB
 rw [h, show (p + 2).toNat - p.toNat = 2 by exact (Om.q 3 1 .f68) ((p + 2).toNat - p.toNat) ((p + 2).toNat) p.toNat p h0 (by exact (Om.tno _)) (by exact (Om.tno _)) (by exact (Om.sbo _ _))]; rfl
theorem iL {b : List UInt8} {p : Int} {c : UInt8} {r : List UInt8} (h0 : 0 <= p) (h : b.drop p.toNat = c :: r) : b.drop (p + 1).toNat = r := by
 rw [show (p + 1).toNat = p.toNat + 1 by exact (Om.q 2 1 (.i (.L .k0 .x0) (.i (.o (.a (.L .k0 (.a .x0 .k1)) (.E (.c .x1) (.a .x0 .k1))) (.a (.T (.a .x0 .k1) .k0) (.e .x1 .k0))) (.i (.o (.a (.L .k0 .x0) (.E (.c .x0) .x0)) (.a (.T .x0 .k0) (.e .x0 .k0))) (.e .x1 (.a .x0 .k1)))))) _ _ _ h0 (Om.tno _) (Om.tno _), <- List.drop_drop, h]; rfl
theorem ln {b : List UInt8} {p : Int} {c d : UInt8} {r : List UInt8} (h0 : 0 <= p) (h : b.drop p.toNat = c :: d :: r) : b.drop (p + 2).toNat = r := by
 rw [show (p + 2).toNat = p.toNat + 2 by exact (Om.q 2 1 (.i (.L .k0 .x0) (.i (.o (.a (.L .k0 (.a .x0 (.k 2))) (.E (.c .x1) (.a .x0 (.k 2)))) (.a (.T (.a .x0 (.k 2)) .k0) (.e .x1 .k0))) (.i (.o (.a (.L .k0 .x0) (.E (.c .x0) .x0)) (.a (.T .x0 .k0) (.e .x0 .k0))) (.e .x1 (.a .x0 (.k 2))))))) _ _ _ h0 (Om.tno _) (Om.tno _), <- List.drop_drop, h]; rfl
theorem kG {b : List UInt8} {p : Int} (h0 : 0 <= p) (h : p < b.length) :
  (if [9, 32].contains (byB b p) = true then p + 1 else aL b p) < 0 /\ wh (b.drop p.toNat) = 0 \/ (p < (if [9, 32].contains (byB b p) = true then p + 1 else aL b p) /\ 0 <= (if [9, 32].contains (byB b p) = true then p + 1 else aL b p) /\ (if [9, 32].contains (byB b p) = true then p + 1 else aL b p) <= b.length /\ whAt b (if [9, 32].contains (byB b p) = true then p + 1 else aL b p) = whAt b p) := by
 obtain ⟨c, hc, _⟩ := ez (b := b) (n := p.toNat) ((Om.q 2 1 .f1) _ _ _ h0 h (Om.tno _))
 generalize hr : b.drop (p.toNat + 1) = r at hc
 have e1 := iR h0 hc
 have e2 := jf h0 hc
 have e3 := iL h0 hc
 have hcc : ∀ k : UInt8, c = k ↔ c.toNat = k.toNat := fun k => ⟨fun q => by rw [q], fun q => UInt8.toNat_inj.mp q⟩
 rw [e1]
 by_cases h1 : c = 9 \/ c = 32
 ·right
  have : [9, 32].contains (c.toNat : Int) = true := by
   rcases h1 with h1 | h1 <;> subst h1 <;> decide
  rw [if_pos this]
  refine ⟨by exact (Om.q 0 1 (.T .x0 (.a .x0 .k1))) _, by exact (Om.q 0 1 .f0) _ h0, by exact (Om.q 1 1 .f5) _ _ h, ?_⟩
  unfold whAt
  rw [e3, hc]
  cases r with
  | nil =>
   have : wh [c] = 1 := by show (if c = 9 \/ c = 32 then 1 else _) = 1; rw [if_pos h1]
   rw [this]; show p + 1 + ((0 : Nat) : Int) = _; exact (Om.q 0 1 (.E (.a (.a .x0 .k1) (.c .k0)) (.a .x0 (.c .k1)))) _
  | cons d r =>
   have : wh (c :: d :: r) = 1 + wh (d :: r) := by show (if c = 9 \/ c = 32 then 1 + wh (d :: r) else _) = _; rw [if_pos h1]
   rw [this]; exact (Om.q 1 1 .f69) _ _
 ·have hn : ¬ [9, 32].contains (c.toNat : Int) = true := by
   intro q
   simp at q
   rw [not_or] at h1
   rcases q with q | q
   ·exact h1.1 ((hcc 9).mpr (by show c.toNat = 9; exact (Om.q 1 0 (.i (.E (.c .x0) (.k 9)) (.e .x0 (.k 9)))) _ q))
   ·exact h1.2 ((hcc 32).mpr (by show c.toNat = 32; exact (Om.q 1 0 (.i (.E (.c .x0) (.k 32)) (.e .x0 (.k 32)))) _ q))
  rw [if_neg hn]
  unfold aL
  rw [e2]
  by_cases h2 : c = 10
  ·right
   subst h2
   rw [if_pos rfl]
   refine ⟨by exact (Om.q 0 1 (.T .x0 (.a .x0 .k1))) _, by exact (Om.q 0 1 .f0) _ h0, by exact (Om.q 1 1 .f5) _ _ h, ?_⟩
   unfold whAt
   rw [e3, hc]
   cases r with
   | nil => show p + 1 + ((0 : Nat) : Int) = p + ((1 : Nat) : Int); exact (Om.q 0 1 (.E (.a (.a .x0 .k1) (.c .k0)) (.a .x0 (.c .k1)))) _
   | cons d r =>
    have : wh (10 :: d :: r) = 1 + wh (d :: r) := rfl
    rw [this]; exact (Om.q 1 1 .f69) _ _
  ·have hx : ¬ [c] = [(10 : UInt8)] := by simpa using h2
   rw [if_neg hx]
   cases r with
   | nil =>
    rw [slB_get21 h0 hc, if_neg (by simp)]
    left
    refine ⟨by decide, ?_⟩
    rw [hc]
    show (if c = 9 \/ c = 32 then 1 else if c = 10 then 1 else 0) = 0
    rw [if_neg h1, if_neg h2]
   | cons d r =>
    rw [slB_get2 h0 hc]
    have hw : wh (c :: d :: r) = if c = 13 /\ d = 10 then 2 + wh r else 0 := by
     show (if c = 9 \/ c = 32 then 1 + wh (d :: r) else if c = 10 then 1 + wh (d :: r) else if c = 13 /\ d = 10 then 2 + wh r else 0) = _
     rw [if_neg h1, if_neg h2]
    by_cases h3 : c = 13 /\ d = 10
    ·right
     obtain ⟨rfl, rfl⟩ := h3
     rw [if_pos rfl]
     have hl := congrArg List.length hc
     rw [List.length_drop] at hl
     simp at hl
     refine ⟨by exact (Om.q 0 1 (.T .x0 (.a .x0 (.k 2)))) _, by exact (Om.q 0 1 .f22) _ h0, by exact (Om.q 4 1 (.i (.L .k0 .x0) (.i (.T .x0 (.c .x3)) (.i (.e .x2 (.a (.a .x0 .k1) .k1)) (.i (.o (.a (.L .k0 .x0) (.E (.c .x1) .x0)) (.a (.T .x0 .k0) (.e .x1 .k0))) (.i (.o (.a (.l .x1 .x3) (.e (.a .x2 .x1) .x3)) (.a (.t .x3 .x1) (.e .x2 .k0))) (.L (.a .x0 (.k 2)) (.c .x3)))))))) _ (Nat.sub _ _) (Int.toNat _) _ _ h0 h hl ((Om.tno _)) ((Om.sbo _ _)), ?_⟩
     unfold whAt
     rw [ln h0 hc, hc, hw, if_pos ⟨rfl, rfl⟩]; exact (Om.q 1 1 (.E (.a (.a .x0 (.k 2)) (.c .x0)) (.a .x0 (.c (.a (.k 2) .x0))))) _ _
    ·left
     rw [if_neg (by simpa using h3)]
     refine ⟨by decide, ?_⟩
     rw [hc, hw, if_neg h3]
noncomputable def cC (b : List UInt8) : List UInt8 -> Nat
 | [] => 0
 | c :: r => if bq (c.toNat : Int) = true then 1 + cC b r else 0
noncomputable def aQ (b : List UInt8) (p : Int) : Int := p + cC b (b.drop p.toNat)
section
variable {G : Gx} {X : Fx} {σ : St} {Ψ : Ps} {Φ : V -> St -> Prop}
inductive WhI (b : List UInt8) (p : Int) (σ : St) (n : Nat) (σ' : St) : Prop
 | mk (q : Int) (ov : Option V) (h0 : σ' = ⟨[("data", some (.bytes b)), ("at", some (.int q)), ("behind", ov)], [("len", .val (.builtin "len")), ("line_end", .glob "line_end")], σ.heap⟩) (h1 : 0 <= q) (h2 : q <= b.length) (h3 : (b.length : Int) - q = n) (h4 : whAt b q = whAt b p)
theorem jN (B : Base G) (o : X.Ok G) (hh0 : X.A.handled = none) (hr : 2 <= X.room) {b : List UInt8} {p : Int} (hz : b.length <= 10000) (h0 : 0 <= p) (hp : p <= b.length) : PC G X (.glob "past_white") [.bytes b, .int p] σ (.int (whAt b p)) := by
 have hz' : b.length <= 100000 := by exact Om.hi hz
 refine aq ["data", "at"] ["behind"] [("len", .val (.builtin "len")), ("line_end", .glob "line_end")] o (Om.lo hr) B.f_past_white (by walk_at "dk") (.cons B.len (.cons (av B.f_line_end) .nil)) rfl fun X' o' hmd hh hr' => ?_
 dsimp only [mkLoc, List.map]
 refine ay (dH o' hmd (WhI b p σ) (b.length - p.toNat) ⟨p, none, rfl, h0, hp, by exact (Om.q 3 1 .f70) _ (Nat.sub _ _) (Int.toNat _) _ h0 hp ((Om.tno _)) ((Om.sbo _ _)), rfl⟩ ?_)
 rintro n σ' ⟨q, ov, rfl, i1, i2, i3, i4⟩
 with_reducible refine de (c := decide (q < (b.length : Int))) (by walk_at "pe") ⟨fun hc1 => ?_, fun hc1 => ?_⟩
 ·have hc1 : q < b.length := by simpa using hc1
  have st := kG i1 hc1
  refine aw (d := .int (if [9, 32].contains (byB b q) = true then q + 1 else aL b q)) o' hmd (by rfl) ?_ (by walk_at "h") ?_
  ·walk_at "pe"
  obtain ⟨q', hq'⟩ : ∃ y, (if [9, 32].contains (byB b q) = true then q + 1 else aL b q) = y := ⟨_, rfl⟩
  rw [hq'] at st ⊢
  with_reducible apply az
  ·walk_at "pe"
  ·intro hc2
   have hc2 : q' < 0 := by simpa using hc2
   with_reducible apply ac
   ·walk_at "pe"
   ·refine ⟨?_, rfl⟩
    rcases st with ⟨_, st⟩ | ⟨s1, s2, s3, s4⟩
    ·rw [<- i4]; unfold whAt; rw [st]; simp
    ·exact ((Om.q 0 1 (.i (.T .x0 .k0) (.i (.L .k0 .x0) .f))) _ hc2 s2 : False).elim
  ·intro hc2
   have hc2 : ¬ q' < 0 := by simpa using hc2
   rcases st with ⟨st, _⟩ | ⟨s1, s2, s3, s4⟩
   ·exact absurd st hc2
   with_reducible apply aa
   apply aw o' hmd (by rfl)
   ·walk_at "pe"
   ·walk_at "h"
   with_reducible apply aa
   exact ⟨(b.length - q'.toNat), by exact (Om.q 4 2 (.i (.L .k0 .x1) (.i (.E (.s (.c .x3) .x1) (.c .x2)) (.i (.n (.T .x0 .k0)) (.i (.T .x1 .x0) (.i (.L .x0 (.c .x3)) (.i (.o (.a (.L .k0 .x0) (.E (.c .x0) .x0)) (.a (.T .x0 .k0) (.e .x0 .k0))) (.i (.o (.a (.l .x0 .x3) (.e (.a .x1 .x0) .x3)) (.a (.t .x3 .x0) (.e .x1 .k0))) (.t .x1 .x2))))))))) _ _ (Nat.sub _ _) (Int.toNat _) _ _ i1 i3 hc2 s1 s3 ((Om.tno _)) ((Om.sbo _ _)), q', _, rfl, s2, s3, by exact (Om.q 4 2 (.i (.L .k0 .x1) (.i (.E (.s (.c .x3) .x1) (.c .x2)) (.i (.n (.T .x0 .k0)) (.i (.T .x1 .x0) (.i (.L .x0 (.c .x3)) (.i (.o (.a (.L .k0 .x0) (.E (.c .x0) .x0)) (.a (.T .x0 .k0) (.e .x0 .k0))) (.i (.o (.a (.l .x0 .x3) (.e (.a .x1 .x0) .x3)) (.a (.t .x3 .x0) (.e .x1 .k0))) (.E (.s (.c .x3) .x0) (.c .x1)))))))))) _ _ (Nat.sub _ _) (Int.toNat _) _ _ i1 i3 hc2 s1 s3 ((Om.tno _)) ((Om.sbo _ _)), s4.trans i4⟩
 ·have hc1 : ¬ q < b.length := by simpa using hc1
  with_reducible apply ac
  ·walk_at "pe"
  ·refine ⟨?_, rfl⟩
   rw [<- i4]
   unfold whAt
   rw [List.drop_of_length_le (by exact (Om.q 3 1 (.i (.L .k0 .x0) (.i (.L .x0 (.c .x2)) (.i (.E (.s (.c .x2) .x0) (.c .x1)) (.i (.n (.T .x0 (.c .x2))) (.i (.o (.a (.L .k0 .x0) (.E (.c .x0) .x0)) (.a (.T .x0 .k0) (.e .x0 .k0))) (.l .x2 .x0))))))) _ _ _ _ i1 i2 i3 hc1 (Om.tno _))]
   show _ = Fl.ret (.int (q + ((0 : Nat) : Int)))
   simp
theorem iW {b : List UInt8} {p : Int} (h0 : 0 <= p) (h : p < b.length) (hc : bq (byB b p) = true) : aQ b (p + 1) = aQ b p := by
 obtain ⟨c, hd, _⟩ := ez (b := b) (n := p.toNat) ((Om.q 2 1 .f1) _ _ _ h0 h (Om.tno _))
 have e1 := iR h0 hd
 rw [e1] at hc
 unfold aQ
 rw [iL h0 hd, hd]
 show _ = p + ((if bq (c.toNat : Int) = true then 1 + cC b (b.drop (p.toNat + 1)) else 0 : Nat) : Int)
 rw [if_pos hc]
 push_cast
 exact (Om.q 1 1 (.E (.a (.a .x0 .k1) (.c .x0)) (.a .x0 (.a .k1 (.c .x0))))) _ _
theorem atom_stop {b : List UInt8} {p : Int} (h0 : 0 <= p) (h : ¬ (p < b.length /\ bq (byB b p) = true)) : aQ b p = p := by
 unfold aQ
 by_cases hl : p < b.length
 ·obtain ⟨c, hd, _⟩ := ez (b := b) (n := p.toNat) ((Om.q 2 1 .f1) _ _ _ h0 hl (Om.tno _))
  have e1 := iR h0 hd
  rw [e1] at h
  rw [hd]
  show p + ((if bq (c.toNat : Int) = true then 1 + cC b (b.drop (p.toNat + 1)) else 0 : Nat) : Int) = p
  rw [if_neg fun q => h ⟨hl, q⟩]; simp
 ·rw [List.drop_of_length_le (by exact (Om.q 2 1 (.i (.L .k0 .x0) (.i (.n (.T .x0 (.c .x1))) (.i (.o (.a (.L .k0 .x0) (.E (.c .x0) .x0)) (.a (.T .x0 .k0) (.e .x0 .k0))) (.l .x1 .x0))))) _ _ _ h0 hl (Om.tno _))]
  show p + ((0 : Nat) : Int) = p
  simp
inductive AtI (b : List UInt8) (p : Int) (σ : St) (n : Nat) (σ' : St) : Prop
 | mk (q : Int) (h0 : σ' = ⟨[("data", some (.bytes b)), ("at", some (.int p)), ("end", some (.int q))], [("len", .val (.builtin "len")), ("is_atom_code", .glob "is_atom_code")], σ.heap⟩) (h1 : 0 <= q) (h2 : q <= b.length) (h3 : (b.length : Int) - q = n) (h4 : aQ b q = aQ b p)
theorem p_atom_at (B : Base G) (o : X.Ok G) (hh0 : X.A.handled = none) (hr : 2 <= X.room) {b : List UInt8} {p : Int} (hz : b.length <= 10000) (h0 : 0 <= p) (hp : p <= b.length) : PC G X (.glob "atom_at") [.bytes b, .int p] σ (.tup [.bytes (slB b p (aQ b p)), .int (aQ b p)]) := by
 have hz' : b.length <= 1000000 := by exact Om.hi hz
 refine aq ["data", "at"] ["end"] [("len", .val (.builtin "len")), ("is_atom_code", .glob "is_atom_code")] o (Om.lo hr) B.f_atom_at (by walk_at "dk") (.cons B.len (.cons (av B.f_is_atom_code) .nil)) rfl fun X' o' hmd hh hr' => ?_
 dsimp only [mkLoc, List.map]
 apply aw o' hmd (by rfl)
 ·walk_at "pe"
 ·walk_at "h"
 refine ay (dH o' hmd (AtI b p σ) (b.length - p.toNat) ⟨p, rfl, h0, hp, by exact (Om.q 3 1 .f70) _ (Nat.sub _ _) (Int.toNat _) _ h0 hp ((Om.tno _)) ((Om.sbo _ _)), rfl⟩ ?_)
 rintro n σ' ⟨q, rfl, i1, i2, i3, i4⟩
 with_reducible refine de (c := decide (q < (b.length : Int)) && bq (byB b q)) (by walk_at "pe") ⟨fun hc1 => ?_, fun hc1 => ?_⟩
 ·have hc1 : q < b.length /\ bq (byB b q) = true := by simpa using hc1
  apply aw o' hmd (by rfl)
  ·walk_at "pe"
  ·walk_at "h"
  with_reducible apply aa
  exact ⟨b.length - (q + 1).toNat, by omega, q + 1, rfl, by exact (Om.q 0 1 .f0) _ i1, by omega, by omega, (iW i1 hc1.1 hc1.2).trans i4⟩
 ·have hc1 : ¬ (q < b.length /\ bq (byB b q) = true) := by simpa using hc1
  have hq := atom_stop i1 hc1
  with_reducible apply ac
  ·walk_at "pe"
  ·refine ⟨?_, rfl⟩
   rw [<- i4, hq]
end
section
variable {G : Gx} {X : Fx} {σ τ : St} {Ψ : Ps} {Φ : V -> St -> Prop} {ΦF : Fl -> St -> Prop}
theorem dropLast_flat : ∀ ws : List (List UInt8), ws.dropLast.flatten.length <= ws.flatten.length
 | [] => by simp
 | [a] => by simp
 | a :: b :: r => by
  have := dropLast_flat (b :: r)
  rw [List.dropLast_cons₂, List.flatten_cons, List.flatten_cons, List.length_append, List.length_append]
  exact (Om.q 3 0 (.i (.l .x2 .x1) (.l (.a .x0 .x2) (.a .x0 .x1)))) _ _ _ this
theorem gq {t : Expr} {b e : List Stmt} {pos : Pos} {ts : List Stmt} {c : Bool} (τ : St) (p : PT G X t σ c) (h1 : c = true -> SSX G X b (fun f σ1 => f = .next /\ σ1 = τ) Ψ σ) (h2 : c = false -> SSX G X e (fun f σ1 => f = .next /\ σ1 = τ) Ψ σ) (k : SSX G X ts ΦF Ψ τ) : SSX G X (.If t b e pos :: ts) ΦF Ψ σ :=
 az p (fun hc => bk (h1 hc) fun f σ1 ⟨e1, e2⟩ => by subst e1 e2; exact k) (fun hc => bk (h2 hc) fun f σ1 ⟨e1, e2⟩ => by subst e1 e2; exact k)
inductive CoI (b : List UInt8) (begun : Int) (σ : St) (r0 : Except Int (List (List UInt8) × Int)) (n : Nat) (σ' : St) : Prop
 | mk (p d : Int) (ws : List (List UInt8)) (sv ov : Option V) (h0 : σ' = ⟨[("data", some (.bytes b)), ("begun", some (.int begun)), ("parts", some (.loc σ.heap.length)), ("depth", some (.int d)), ("at", some (.int p)), ("sign", sv), ("octets", ov)], [("MOST_DEPTH", .int 20), ("WordFault", .glob "WordFault"), ("inside_at", .glob "inside_at")], σ.heap ++ [some (.list (ws.map .bytes))]⟩) (h1 : 0 <= p) (h2 : p <= b.length) (h3 : (b.length : Int) <= p + n) (h4 : (ws.flatten.length : Int) <= p) (h5 : (ws.length : Int) <= p) (h6 : go (cy b begun n d p) r0 ws)
theorem hJ (B : Base G) (o : X.Ok G) (hf : X.md = .fr) (hh0 : X.A.handled = none) (hr : 5 <= X.room) {b : List UInt8} {begun : Int} (hz : b.length <= 10000) (h0 : 0 <= begun) (hlt : begun < b.length) : RC G X (.glob "comment_at") [.bytes b, .int begun] σ (rcP σ.heap (cJ b begun)) := by
 have hz' : b.length <= 100000 := by exact Om.hi hz
 unfold cJ
 obtain ⟨r0, hr0⟩ : ∃ y, cy b begun (b.length + 1) 1 (begun + 1) = y := ⟨_, rfl⟩
 rw [hr0]
 refine rdef ["data", "begun"] ["parts", "depth", "at", "sign", "octets"] [("MOST_DEPTH", .int 20), ("WordFault", .glob "WordFault"), ("inside_at", .glob "inside_at")] o hf (Om.lo hr) B.f_comment_at (by walk_at "dk")
  (.cons B.MOST_DEPTH (.cons B.word.gls (.cons (av B.f_inside_at) .nil))) fun X' o' hmd hh hr' hsc hcl => ?_
 dsimp only [mkLoc, List.map]
 apply bb o' hmd (by rfl)
 with_reducible refine cG pa_nil (by decide) ⟨_, by walk_at "h", ?_⟩
 dsimp only
 apply aw o' hmd (by rfl)
 ·walk_at "pe"
 ·walk_at "h"
 apply aw o' hmd (by rfl)
 ·walk_at "pe"
 ·walk_at "h"
 with_reducible refine ay (dH o' hmd (CoI b begun σ r0) (b.length + 1) ?_ ?_)
 ·refine ⟨begun + 1, 1, [], none, none, rfl, by exact (Om.q 0 1 .f0) _ h0, by exact (Om.q 1 1 .f5) _ _ hlt, by exact (Om.q 1 1 .f61) _ _ h0, by simp; exact (Om.q 0 1 .f0) _ h0, by simp; exact (Om.q 0 1 .f0) _ h0, ?_⟩
  rw [hr0]
  unfold go
  cases r0 with
  | error a => rfl
  | ok x => rfl
 ·rintro n σ' ⟨p, d, ws, sv, ov, rfl, i1, i2, i3, i4, i5, i6⟩
  with_reducible refine de (c := decide (0 < d)) (by walk_at "pe") ⟨fun hc1 => ?_, fun hc1 => ?_⟩
  ·have hc1 : 0 < d := by simpa using hc1
   apply aw o' hmd (by rfl)
   ·walk_at "pe"
   ·walk_at "h"
   by_cases hdeep : slB b p (p + 1) = [40] /\ 20 < d + 1
   ·with_reducible apply az
    ·walk_at "pe"
    ·intro hc2
     apply aw o' hmd (by rfl)
     ·walk_at "pe"
     ·walk_at "h"
     with_reducible apply az
     ·walk_at "pe"
     ·intro hc3
      refine bl B.word o' hmd (hh.trans hh0) (Om.rm hr hr') (by rfl) (by walk_at "h") (by walk_at "pe") ⟨_, .inl rfl⟩ ?_
      obtain ⟨n, rfl⟩ : ∃ m, n = m + 1 := by
       refine ⟨n - 1, ?_⟩
       rcases Nat.eq_zero_or_pos n with z | z
       ·exfalso; subst z; rw [slB_end (by exact (Om.q 1 1 .f20) _ _ i2 i3)] at hdeep; cases hdeep.1
       ·exact (Om.q 2 0 .f21) _ _ z (Om.sbo _ _)
      unfold go cy at i6
      rw [if_pos hc1, if_pos hdeep] at i6
      rw [i6]; rfl
     ·intro hc3
      simp at hc3
      omega
    ·intro hc2
     simp [hdeep.1] at hc2
   ·with_reducible refine gq ⟨[("data", some (.bytes b)), ("begun", some (.int begun)), ("parts", some (.loc σ.heap.length)), ("depth", some (.int (if slB b p (p + 1) = [40] then d + 1 else if slB b p (p + 1) = [41] then d - 1 else d))), ("at", some (.int p)), ("sign", some (.bytes (slB b p (p + 1)))), ("octets", ov)], [("MOST_DEPTH", .int 20), ("WordFault", .glob "WordFault"), ("inside_at", .glob "inside_at")], σ.heap ++ [some (.list (ws.map .bytes))]⟩ (c := decide (slB b p (p + 1) = [40])) (by walk_at "pe") (fun hc2 => ?_) (fun hc2 => ?_) ?_
    ·have hc2 : slB b p (p + 1) = [40] := by simpa using hc2
     apply aw o' hmd (by rfl)
     ·walk_at "pe"
     ·walk_at "h"
     with_reducible apply az
     ·walk_at "pe"
     ·intro hc3
      exact absurd ⟨hc2, by simpa using hc3⟩ hdeep
     ·intro hc3
      with_reducible apply aa
      with_reducible apply aa
      refine ⟨rfl, ?_⟩
      rw [if_pos hc2]
    ·have hc2 : ¬ slB b p (p + 1) = [40] := by simpa using hc2
     with_reducible refine az (c := decide (slB b p (p + 1) = [41])) (by walk_at "pe") (fun hc3 => ?_) (fun hc3 => ?_)
     ·have hc3 : slB b p (p + 1) = [41] := by simpa using hc3
      apply aw o' hmd (by rfl)
      ·walk_at "pe"
      ·walk_at "h"
      with_reducible apply aa
      with_reducible apply aa
      refine ⟨rfl, ?_⟩
      rw [if_neg hc2, if_pos hc3]
     ·have hc3 : ¬ slB b p (p + 1) = [41] := by simpa using hc3
      with_reducible apply aa
      with_reducible apply aa
      refine ⟨rfl, ?_⟩
      rw [if_neg hc2, if_neg hc3]
    ·cases hi : insR b p begun with
     | error a' =>
      refine br o' hmd (hh.trans hh0) (by walk_at "u") (fun _ => by walk_at "u") (fun _ => by walk_at "u") (bA o' (by rfl) (by walk_at "pe") rfl (by walk_at "pe") ((eW (b := b) (p := p) (begun := begun) B o' hmd (hh.trans hh0) (Om.rm hr hr') hz i1).err (congrArg _ hi) ?_))
      cases n with
      | zero =>
       rw [e7 (by exact (Om.q 1 1 .f20) _ _ i2 i3)] at hi
       cases hi
       unfold go cy at i6
       rw [if_pos hc1] at i6
       rw [i6]; rfl
      | succ n =>
       unfold go cy at i6
       rw [if_pos hc1, if_neg hdeep, hi] at i6
       rw [i6]; rfl
     | ok x =>
      obtain ⟨w, q⟩ := x
      refine br o' hmd (hh.trans hh0) (by walk_at "u") (fun _ => by walk_at "u") (fun _ => by walk_at "u") (bA o' (by rfl) (by walk_at "pe") rfl (by walk_at "pe") ((eW (b := b) (p := p) (begun := begun) B o' hmd (hh.trans hh0) (Om.rm hr hr') hz i1).ok (congrArg _ hi) ?_))
      obtain ⟨j1, j2, j3, j4⟩ := fZ i1 hi
      refine ⟨_, _, rfl, rfl, by walk_at "h", ?_⟩
      apply bI o' hmd (by rfl)
      refine cY (ds := ws.map .bytes) (i := σ.heap.length) (d := .bytes w) o' (by rfl) ⟨_, fun _ => by walk_at "u"⟩ (by walk_at "pe") (by walk_at "pe") aM (by simp; exact (Om.q 2 2 (.i (.l .x1 (.k 10000)) (.i (.L (.c .x0) .x1) (.i (.L (.a .x1 .k1) .x0) (.i (.L .x0 (.a .x1 (.k 2))) (.i (.L .x0 (.c .x1)) (.l .x0 (.k 1000000)))))))) _ _ _ _ hz i5 j2 j3 j4) ?_
      dsimp only
      rw [aF]
      with_reducible apply aa
      obtain ⟨n, rfl⟩ : ∃ m, n = m + 1 := by
       refine ⟨n - 1, ?_⟩
       rcases Nat.eq_zero_or_pos n with z | z
       ·exfalso; subst z; rw [e7 (by exact (Om.q 1 2 .f63) _ _ _ i2 j2 j3 j4 i3)] at hi; injection hi
       ·exact (Om.q 2 0 .f21) _ _ z (Om.sbo _ _)
      refine ⟨n, Nat.lt_succ_self n, q, (if slB b p (p + 1) = [40] then d + 1 else if slB b p (p + 1) = [41] then d - 1 else d), ws ++ [w], some (.bytes (slB b p (p + 1))), some (.bytes w), by simp, by exact (Om.q 1 2 .f64) _ _ _ hz i1 i2 j2 j3, j4, by exact (Om.q 2 2 .f65) _ _ _ _ j2 j3 i3, by rw [iA]; exact (Om.q 2 2 .f66) _ _ _ _ i4 j1 j2 j3, by simp; exact (Om.q 1 2 .f67) _ _ _ i5 j2 j3, ?_⟩
      unfold go cy at i6
      rw [if_pos hc1, if_neg hdeep, hi] at i6
      unfold go
      dsimp only at i6
      generalize cy b begun n (if slB b p (p + 1) = [40] then d + 1 else if slB b p (p + 1) = [41] then d - 1 else d) q = rr at i6 ⊢
      cases rr with
      | error a => exact i6
      | ok x => simpa using i6
  ·have hc1 : ¬ 0 < d := by simpa using hc1
   have e : r0 = .ok (ws, p) := by
    cases n with
    | zero =>
     unfold go cy at i6
     rw [if_neg hc1] at i6
     simpa using i6
    | succ n =>
     unfold go cy at i6
     rw [if_neg hc1] at i6
     simpa using i6
   with_reducible refine ac (v := .tup [.bytes ws.dropLast.flatten, .int p]) ?_ ?_
   ·with_reducible apply bU
    ·apply ah (by rfl)
     ·with_reducible apply aI (by assumption) (by walk_at "u") ⟨_, fun _ => by walk_at "u"⟩ gz e8 rfl
      ·apply ah (by rfl)
       ·with_reducible apply ia
        ·walk_at "pe"
        ·walk_at "pe"
        ·exact ps_init o' aM (by simp; exact (Om.q 2 1 .f31) _ _ _ hz i1 i2 i5)
       ·with_reducible exact pa_nil
      ·have hfl := dropLast_flat ws
       refine pc_joinb (bs := ws.dropLast) (by rw [List.map_dropLast]) o' ((Om.q 3 1 (.i (.l .x2 (.k 10000)) (.i (.L .k0 .x0) (.i (.L .x0 (.c .x2)) (.i (.L (.c .x1) .x0) (.i (.l .x0 .x1) (.l .x0 (.k 1000000)))))))) _ _ _ _ hz i1 i2 i4 hfl)
     ·walk_at "pe"
    ·simp
   ·refine bx (G := G) hcl gj ?_ rfl
    rw [e]; rfl
end
noncomputable abbrev Tk := List Nat × List UInt8 × Int
noncomputable def tkV (t : Tk) : V := .tup [.str t.1, .bytes t.2.1, .int t.2.2]
noncomputable def sgnB : List UInt8 := [60, 62, 64, 44, 59, 58, 46, 92]
noncomputable def mkTk (k : List Nat) (p : Int) : Except Int (List UInt8 × Int) -> Except Int (Tk × Int)
 | .ok (w, q) => .ok ((k, w, p), q)
 | .error a => .error a
noncomputable def bj (b : List UInt8) (p : Int) : Except Int (Tk × Int) :=
 if slB b p (p + 1) = [34] then mkTk (S "quoted") p (dB b p [34] [])
 else if slB b p (p + 1) = [91] then mkTk (S "literal") p (dB b p [93] [91])
 else if slB b p (p + 1) = [40] then mkTk (S "comment") p (cJ b p)
 else if sgnB.contains ((slB b p (p + 1)).headD 0) = true then .ok ((S "sign", slB b p (p + 1), p), p + 1)
 else if bq (byB b p) = false then .error p
 else .ok ((S "atom", slB b p (aQ b p), p), aQ b p)
noncomputable def tokF (b : List UInt8) : Nat -> Int -> Except Int (List Tk)
 | 0, _ => .ok []
 | n + 1, p => if p < b.length then match bj b p with
   | .error a => .error a
   | .ok (t, q) => match tokF b n (whAt b q) with
    | .error a => .error a
    | .ok ts => .ok (t :: ts)
  else .ok []
noncomputable def bh (b : List UInt8) : Except Int (List Tk) := tokF b (b.length + 1) (whAt b 0)
noncomputable def bare (ts : List Tk) : List Tk := ts.filter fun t => decide (t.1 ≠ S "comment")
theorem closeF_ok {b : List UInt8} {begun : Int} {cl ba : List UInt8} : ∀ {n : Nat} {p : Int} {ws : List (List UInt8)} {e : Int}, 0 <= p -> bQ b begun cl ba n p = .ok (ws, e) -> p <= e /\ slB b e (e + 1) = cl := by
 intro n
 induction n with
 | zero => exact fun _ => erE
 | succ n ih =>
  intro p ws e h0 h
  refine iteE h (fun hc h => ?_) fun _ h => iteE h (fun _ => erE) fun _ h => ?_
  ·obtain ⟨rfl, rfl⟩ := Prod.mk.inj (Except.ok.inj h); exact ⟨Int.le_refl _, hc⟩
  generalize hi : insR b p begun = r at h
  cases r with
  | error => exact erE h
  | ok y =>
   obtain ⟨j1, j2, j3, j4⟩ := fZ h0 hi
   dsimp only at h
   generalize hf : bQ b begun cl ba n y.2 = r at h
   cases r with
   | error => exact erE h
   | ok z =>
    have := ih (Int.le_trans h0 (Int.le_trans (Int.le_add_of_nonneg_right (by decide)) j2)) hf
    exact okE2 (P := fun _ e => p <= e /\ slB b e (e + 1) = cl) h ⟨Int.le_trans (Int.le_trans (Int.le_add_of_nonneg_right (by decide)) j2) this.1, this.2⟩
theorem commF_ok {b : List UInt8} {begun : Int} : ∀ {n : Nat} {d p : Int} {ws : List (List UInt8)} {e : Int}, 0 <= p -> p <= b.length -> cy b begun n d p = .ok (ws, e) -> p <= e /\ e <= b.length := by
 intro n
 induction n with
 | zero =>
  intro d p ws e _ hp h
  refine iteE h (fun _ => erE) fun _ h => ?_
  obtain ⟨rfl, rfl⟩ := Prod.mk.inj (Except.ok.inj h); exact ⟨Int.le_refl _, hp⟩
 | succ n ih =>
  intro d p ws e h0 hp h
  refine iteE h (fun _ h => iteE h (fun _ => erE) fun _ h => ?_) fun _ h => ?_
  rotate_left
  ·obtain ⟨rfl, rfl⟩ := Prod.mk.inj (Except.ok.inj h); exact ⟨Int.le_refl _, hp⟩
  generalize hi : insR b p begun = r at h
  cases r with
  | error => exact erE h
  | ok y =>
   obtain ⟨j1, j2, j3, j4⟩ := fZ h0 hi
   dsimp only at h
   generalize hf : cy b begun n _ y.2 = r at h
   cases r with
   | error => exact erE h
   | ok z =>
    have := ih (Int.le_trans h0 (Int.le_trans (Int.le_add_of_nonneg_right (by decide)) j2)) j4 hf
    exact okE2 (P := fun _ e => p <= e /\ e <= b.length) h ⟨Int.le_trans (Int.le_trans (Int.le_add_of_nonneg_right (by decide)) j2) this.1, this.2⟩
theorem iU (b : List UInt8) : ∀ l : List UInt8, cC b l <= l.length
 | [] => Nat.le_refl _
 | c :: r => by
  have := iU b r
  unfold cC
  split
  ·rw [List.length_cons]; exact (Om.q 2 0 (.i (.l .x1 .x0) (.l (.a .k1 .x1) (.a .x0 .k1)))) _ _ this
  ·exact (Om.q 1 0 (.l .k0 .x0)) _
theorem lB {b : List UInt8} {p : Int} (h0 : 0 <= p) (hp : p < b.length) (hc : bq (byB b p) = true) : p + 1 <= aQ b p /\ aQ b p <= b.length := by
 have e := iW h0 hp hc
 have h1 := iU b (b.drop (p + 1).toNat)
 rw [List.length_drop] at h1
 rw [<- e]
 unfold aQ
 exact (Om.q 4 1 (.i (.L .k0 .x0) (.i (.T .x0 (.c .x3)) (.i (.l .x2 .x1) (.i (.o (.a (.L .k0 (.a .x0 .k1)) (.E (.c .x0) (.a .x0 .k1))) (.a (.T (.a .x0 .k1) .k0) (.e .x0 .k0))) (.i (.o (.a (.l .x0 .x3) (.e (.a .x1 .x0) .x3)) (.a (.t .x3 .x0) (.e .x1 .k0))) (.a (.L (.a .x0 .k1) (.a (.a .x0 .k1) (.c .x2))) (.L (.a (.a .x0 .k1) (.c .x2)) (.c .x3))))))))) b.length (cC b (List.drop (p + 1).toNat b)) (b.length - (p + 1).toNat) ((p + 1).toNat) p h0 hp h1 (by exact (Om.tno _)) (by exact (Om.sbo _ _))
theorem wh_le : ∀ l : List UInt8, wh l <= l.length
 | [] => Nat.le_refl _
 | [c] => by
  show (if c = 9 \/ c = 32 then 1 else if c = 10 then 1 else 0) <= 1
  split
  ·exact Nat.le_refl _
  ·split <;> decide
 | c :: d :: r => by
  have h1 := wh_le (d :: r)
  have h2 := wh_le r
  show (if c = 9 \/ c = 32 then 1 + wh (d :: r) else if c = 10 then 1 + wh (d :: r) else if c = 13 /\ d = 10 then 2 + wh r else 0) <= _
  simp only [List.length_cons] at h1 ⊢
  split
  ·exact (Om.q 2 0 .f71) _ _ h1
  ·split
   ·exact (Om.q 2 0 .f71) _ _ h1
   ·split <;> (first | exact (Om.q 1 0 (.l .k0 (.a (.a .x0 .k1) .k1))) _ | exact (Om.q 2 0 (.i (.l .x1 .x0) (.l (.a (.k 2) .x1) (.a (.a .x0 .k1) .k1)))) _ _ h2)
theorem dO {b : List UInt8} {p : Int} (h0 : 0 <= p) (hp : p <= b.length) : p <= whAt b p /\ whAt b p <= b.length := by
 have := wh_le (b.drop p.toNat)
 rw [List.length_drop] at this
 unfold whAt
 exact (Om.q 4 1 (.i (.L .k0 .x0) (.i (.L .x0 (.c .x3)) (.i (.l .x2 .x1) (.i (.o (.a (.L .k0 .x0) (.E (.c .x0) .x0)) (.a (.T .x0 .k0) (.e .x0 .k0))) (.i (.o (.a (.l .x0 .x3) (.e (.a .x1 .x0) .x3)) (.a (.t .x3 .x0) (.e .x1 .k0))) (.a (.L .x0 (.a .x0 (.c .x2))) (.L (.a .x0 (.c .x2)) (.c .x3))))))))) _ _ (Nat.sub _ _) (Int.toNat _) _ h0 hp this ((Om.tno _)) ((Om.sbo _ _))
theorem fU {k : List Nat} {p q : Int} {r : Except Int (List UInt8 × Int)} {t : Tk} (h : mkTk k p r = .ok (t, q)) : ∃ w, r = .ok (w, q) /\ t = (k, w, p) := by
 cases r with
 | error => exact erE h
 | ok y =>
  obtain ⟨w, q'⟩ := y
  have h : Except.ok (ε := Int) ((k, w, p), q') = .ok (t, q) := h
  obtain ⟨rfl, rfl⟩ := Prod.mk.inj (Except.ok.inj h)
  exact ⟨w, rfl, rfl⟩
theorem gT {b : List UInt8} {p q : Int} {c ba w : List UInt8} (h0 : 0 <= p) (hc : c.length = 1) (h : dB b p c ba = .ok (w, q)) : p + 1 <= q /\ q <= b.length := by
 have h : (match bQ b p c ba (b.length + 1) (p + 1) with | .error a => .error a | .ok (ws, e) => .ok (ws.flatten, e + 1)) = Except.ok (w, q) := h
 generalize hf : bQ b p c ba (b.length + 1) (p + 1) = r at h
 cases r with
 | error => exact erE h
 | ok y =>
  obtain ⟨h1, h2⟩ := closeF_ok (Om.za h0) hf
  have := hH (b := b) (p := y.2) (q := y.2 + 1) (Int.le_trans (Om.za h0) h1) (n := 1) (by rw [h2]; exact hc) (by decide)
  exact okE2 (P := fun _ q => p + 1 <= q /\ q <= b.length) h ⟨Int.le_trans h1 (Int.le_add_of_nonneg_right (by decide)), this⟩
theorem kr {b : List UInt8} {p q : Int} {w : List UInt8} (h0 : 0 <= p) (hp : p < b.length) (h : cJ b p = .ok (w, q)) : p + 1 <= q /\ q <= b.length := by
 have h : (match cy b p (b.length + 1) 1 (p + 1) with | .error a => .error a | .ok (ws, e) => .ok (ws.dropLast.flatten, e)) = Except.ok (w, q) := h
 generalize hf : cy b p (b.length + 1) 1 (p + 1) = r at h
 cases r with
 | error => exact erE h
 | ok y => exact okE2 (P := fun _ q => p + 1 <= q /\ q <= b.length) h (commF_ok (Om.za h0) (Int.add_one_le_of_lt hp) hf)
theorem fq {b : List UInt8} {p : Int} {t : Tk} {q : Int} (h0 : 0 <= p) (hp : p < b.length) (h : bj b p = .ok (t, q)) : p + 1 <= q /\ q <= b.length := by
 refine iteE h (fun _ h => let ⟨_, h, _⟩ := fU h; gT h0 rfl h) fun _ h => iteE h (fun _ h => let ⟨_, h, _⟩ := fU h; gT h0 rfl h) fun _ h => iteE h (fun _ h => let ⟨_, h, _⟩ := fU h; kr h0 hp h) fun _ h => iteE h (fun _ h => ?_) fun _ h => iteE h (fun _ => erE) fun hc h => ?_
 ·obtain ⟨rfl, rfl⟩ := Prod.mk.inj (Except.ok.inj h); exact ⟨Int.le_refl _, Int.add_one_le_of_lt hp⟩
 ·obtain ⟨rfl, rfl⟩ := Prod.mk.inj (Except.ok.inj h); exact (lB h0 hp ((Bool.not_eq_false _).mp hc))
noncomputable def rcT (H : List (Option MO)) : Except Int (Tk × Int) -> Except Int (V × List (Option MO))
 | .ok (t, q) => .ok (.tup [tkV t, .int q], H)
 | .error a => .error a
noncomputable def rcTs (H : List (Option MO)) : Except Int (List Tk) -> Except Int (V × List (Option MO))
 | .ok ts => .ok (.lst (ts.map tkV), H)
 | .error a => .error a
local macro_rules | `(tactic| walk_at "own") => `(tactic| (first | apply p_atom_at | apply jN) <;> walk_at "sd")
section
variable {G : Gx} {X : Fx} {σ τ : St} {Ψ : Ps} {Φ : V -> St -> Prop} {ΦF : Fl -> St -> Prop}
theorem pq_inbb {a b : List UInt8} {c : UInt8} (e : a = [c]) (hh : X.A.handled = none) : PQ G X .In (.bytes a) (.bytes b) σ (.bool (b.contains c)) := by subst e; exact cmp_in_bb hh ⟨rfl, rfl⟩
theorem dA (n : Nat) : ∀ ts : List Tk, V.closeds n (ts.map tkV) = true
 | [] => rfl
 | t :: ts => by
  exact dA n ts
theorem r_token (B : Base G) (o : X.Ok G) (hf : X.md = .fr) (hh0 : X.A.handled = none) (hr : 6 <= X.room) {b : List UInt8} {p : Int} (hz : b.length <= 10000) (h0 : 0 <= p) (hlt : p < b.length) : RC G X (.glob "token_at") [.bytes b, .int p] σ (rcT σ.heap (bj b p)) := by
 have hz' : b.length <= 100000 := by exact Om.hi hz
 refine rdef ["data", "at"] ["sign", "worth", "behind"] [("closed_at", .glob "closed_at"), ("comment_at", .glob "comment_at"), ("SIGNS", .bytes sgnB), ("is_atom_code", .glob "is_atom_code"), ("WordFault", .glob "WordFault"), ("atom_at", .glob "atom_at")] o hf (Om.lo hr) B.f_token_at (by walk_at "dk")
  (.cons (av B.f_closed_at) (.cons (av B.f_comment_at) (.cons B.SIGNS (.cons (av B.f_is_atom_code) (.cons B.word.gls (.cons (av B.f_atom_at) .nil)))))) fun X' o' hmd hh hr' hsc hcl => ?_
 dsimp only [mkLoc, List.map]
 have hh' : X'.A.handled = none := hh.trans hh0
 apply aw o' hmd (by rfl)
 ·walk_at "pe"
 ·walk_at "h"
 with_reducible apply az
 ·walk_at "pe"
 ·intro hc
  have hc : slB b p (p + 1) = [34] := by simpa using hc
  cases hi : dB b p [34] [] with
  | error a' =>
   refine br o' hmd hh' (by walk_at "u") (fun _ => by walk_at "u") (fun _ => by walk_at "u") (bA o' (by rfl) (by walk_at "pe") rfl (by walk_at "pe") ((eX (b := b) (begun := p) (closing := [34]) (barred := []) B o' hmd hh' (Om.rm hr hr') hz h0 hlt (by simp)).err (congrArg _ hi) ?_))
   unfold bj; rw [if_pos hc, hi]; rfl
  | ok x =>
   obtain ⟨w, q⟩ := x
   refine br o' hmd hh' (by walk_at "u") (fun _ => by walk_at "u") (fun _ => by walk_at "u") (bA o' (by rfl) (by walk_at "pe") rfl (by walk_at "pe") ((eX (b := b) (begun := p) (closing := [34]) (barred := []) B o' hmd hh' (Om.rm hr hr') hz h0 hlt (by simp)).ok (congrArg _ hi) ?_))
   refine ⟨_, _, rfl, rfl, by walk_at "h", ?_⟩
   with_reducible apply ac
   ·walk_at "pe"
   ·refine bn (G := G) hcl rfl ?_ rfl
    unfold bj; rw [if_pos hc, hi]; rfl
 intro hc1
 have hc1 : ¬ slB b p (p + 1) = [34] := by simpa using hc1
 with_reducible apply aa
 with_reducible apply az
 ·walk_at "pe"
 ·intro hc
  have hc : slB b p (p + 1) = [91] := by simpa using hc
  cases hi : dB b p [93] [91] with
  | error a' =>
   refine br o' hmd hh' (by walk_at "u") (fun _ => by walk_at "u") (fun _ => by walk_at "u") (bA o' (by rfl) (by walk_at "pe") rfl (by walk_at "pe") ((eX (b := b) (begun := p) (closing := [93]) (barred := [91]) B o' hmd hh' (Om.rm hr hr') hz h0 hlt (by simp)).err (congrArg _ hi) ?_))
   unfold bj; rw [if_neg hc1, if_pos hc, hi]; rfl
  | ok x =>
   obtain ⟨w, q⟩ := x
   refine br o' hmd hh' (by walk_at "u") (fun _ => by walk_at "u") (fun _ => by walk_at "u") (bA o' (by rfl) (by walk_at "pe") rfl (by walk_at "pe") ((eX (b := b) (begun := p) (closing := [93]) (barred := [91]) B o' hmd hh' (Om.rm hr hr') hz h0 hlt (by simp)).ok (congrArg _ hi) ?_))
   refine ⟨_, _, rfl, rfl, by walk_at "h", ?_⟩
   with_reducible apply ac
   ·walk_at "pe"
   ·refine bn (G := G) hcl rfl ?_ rfl
    unfold bj; rw [if_neg hc1, if_pos hc, hi]; rfl
 intro hc2
 have hc2 : ¬ slB b p (p + 1) = [91] := by simpa using hc2
 with_reducible apply aa
 with_reducible apply az
 ·walk_at "pe"
 ·intro hc
  have hc : slB b p (p + 1) = [40] := by simpa using hc
  cases hi : cJ b p with
  | error a' =>
   refine br o' hmd hh' (by walk_at "u") (fun _ => by walk_at "u") (fun _ => by walk_at "u") (bA o' (by rfl) (by walk_at "pe") rfl (by walk_at "pe") ((hJ (b := b) (begun := p) B o' hmd hh' (Om.rm hr hr') hz h0 hlt).err (congrArg _ hi) ?_))
   unfold bj; rw [if_neg hc1, if_neg hc2, if_pos hc, hi]; rfl
  | ok x =>
   obtain ⟨w, q⟩ := x
   refine br o' hmd hh' (by walk_at "u") (fun _ => by walk_at "u") (fun _ => by walk_at "u") (bA o' (by rfl) (by walk_at "pe") rfl (by walk_at "pe") ((hJ (b := b) (begun := p) B o' hmd hh' (Om.rm hr hr') hz h0 hlt).ok (congrArg _ hi) ?_))
   refine ⟨_, _, rfl, rfl, by walk_at "h", ?_⟩
   with_reducible apply ac
   ·walk_at "pe"
   ·refine bn (G := G) hcl rfl ?_ rfl
    unfold bj; rw [if_neg hc1, if_neg hc2, if_pos hc, hi]; rfl
 intro hc3
 have hc3 : ¬ slB b p (p + 1) = [40] := by simpa using hc3
 with_reducible apply aa
 obtain ⟨c, hd, _⟩ := ez (b := b) (n := p.toNat) ((Om.q 2 1 .f1) _ _ _ h0 hlt (Om.tno _))
 have hs := jf h0 hd
 with_reducible refine az (c := sgnB.contains c) ?_ ?_ ?_
 ·with_reducible apply bw (by walk_at "u")
  ·walk_at "pe"
  ·walk_at "pe"
  ·with_reducible exact pq_inbb hs hh'
 ·intro hc
  with_reducible apply ac
  ·walk_at "pe"
  ·refine bn (G := G) hcl rfl ?_ rfl
   unfold bj; rw [if_neg hc1, if_neg hc2, if_neg hc3, if_pos (by rw [hs]; exact hc)]; rfl
 ·intro hc4
  with_reducible apply aa
  with_reducible apply az
  ·walk_at "pe"
  ·intro hc
   refine bl B.word o' hmd hh' (Om.rm hr hr') (by rfl) (by walk_at "h") (by walk_at "pe") ⟨_, .inl rfl⟩ ?_
   unfold bj; rw [if_neg hc1, if_neg hc2, if_neg hc3, if_neg (by rw [hs]; show ¬ sgnB.contains c = true; rw [hc4]; decide), if_pos (by simpa using hc)]; rfl
  ·intro hc
   have hat : bq (byB b p) = true := by simpa using hc
   with_reducible apply aa
   have hle : p <= b.length := by exact (Om.q 1 1 (.i (.T .x0 (.c .x0)) (.L .x0 (.c .x0)))) _ _ hlt
   with_reducible refine br o' hmd hh' (by walk_at "u") (fun _ => by walk_at "u") (fun _ => by walk_at "u") (am (v := .tup [.bytes (slB b p (aQ b p)), .int (aQ b p)]) (by walk_at "pe") ⟨_, _, rfl, rfl, by walk_at "h", ?_⟩)
   with_reducible apply ac
   ·walk_at "pe"
   ·refine bn (G := G) hcl rfl ?_ rfl
    unfold bj; rw [if_neg hc1, if_neg hc2, if_neg hc3, if_neg (by rw [hs]; show ¬ sgnB.contains c = true; rw [hc4]; decide), if_neg (by rw [hat]; decide)]; rfl
inductive ToI (b : List UInt8) (σ : St) (r0 : Except Int (List Tk)) (n : Nat) (σ' : St) : Prop
 | mk (p : Int) (ts : List Tk) (tv : Option V) (h0 : σ' = ⟨[("octets", some (.bytes b)), ("found", some (.loc σ.heap.length)), ("at", some (.int p)), ("token", tv)], [("past_white", .glob "past_white"), ("len", .val (.builtin "len")), ("token_at", .glob "token_at")], σ.heap ++ [some (.list (ts.map tkV))]⟩) (h1 : 0 <= p) (h2 : p <= b.length) (h3 : (b.length : Int) <= p + n) (h4 : (ts.length : Int) <= p) (h5 : (match tokF b n p with | .error a => r0 = .error a | .ok us => r0 = .ok (ts ++ us)))
theorem jh (B : Base G) (o : X.Ok G) (hf : X.md = .fr) (hh0 : X.A.handled = none) (hr : 7 <= X.room) {b : List UInt8} (hz : b.length <= 10000) : RC G X (.glob "tokens_of") [.bytes b] σ (rcTs σ.heap (bh b)) := by
 have hz' : b.length <= 100000 := by exact Om.hi hz
 unfold bh
 obtain ⟨r0, hr0⟩ : ∃ y, tokF b (b.length + 1) (whAt b 0) = y := ⟨_, rfl⟩
 rw [hr0]
 refine rdef ["octets"] ["found", "at", "token"] [("past_white", .glob "past_white"), ("len", .val (.builtin "len")), ("token_at", .glob "token_at")] o hf (Om.lo hr) B.f_tokens_of (by walk_at "dk")
  (.cons (av B.f_past_white) (.cons B.len (.cons (av B.f_token_at) .nil))) fun X' o' hmd hh hr' hsc hcl => ?_
 dsimp only [mkLoc, List.map]
 have hh' : X'.A.handled = none := hh.trans hh0
 apply bb o' hmd (by rfl)
 with_reducible refine cG pa_nil (by decide) ⟨_, by walk_at "h", ?_⟩
 dsimp only
 apply aw o' hmd (by rfl)
 ·walk_at "pe"
 ·walk_at "h"
 obtain ⟨w1, w2⟩ := dO (b := b) (p := 0) (by decide) ((Om.q 1 0 (.i (.l .x0 (.k 10000)) (.L .k0 (.c .x0)))) _ hz)
 with_reducible refine ay (dH o' hmd (ToI b σ r0) (b.length + 1) ?_ ?_)
 ·refine ⟨whAt b 0, [], none, rfl, w1, w2, by exact (Om.q 1 1 (.i (.L .k0 .x0) (.L (.c .x0) (.a .x0 (.c (.a .x0 .k1)))))) _ _ w1, by simp; exact (Om.q 0 1 (.i (.L .k0 .x0) (.L .k0 .x0))) _ w1, ?_⟩
  rw [hr0]
  cases r0 with
  | error a => rfl
  | ok x => rfl
 ·rintro n σ' ⟨p, ts, tv, rfl, i1, i2, i3, i4, i6⟩
  with_reducible refine de (c := decide (p < (b.length : Int))) (by walk_at "pe") ⟨fun hc1 => ?_, fun hc1 => ?_⟩
  ·have hc1 : p < b.length := by simpa using hc1
   obtain ⟨n, rfl⟩ : ∃ m, n = m + 1 := ⟨n - 1, by exact (Om.q 3 1 .f62) _ _ _ _ i3 hc1 (Om.sbo _ _)⟩
   unfold tokF at i6
   rw [if_pos hc1] at i6
   cases hi : bj b p with
   | error a' =>
    refine br o' hmd hh' (by walk_at "u") (fun _ => by walk_at "u") (fun _ => by walk_at "u") (bA o' (by rfl) (by walk_at "pe") rfl (by walk_at "pe") ((r_token (b := b) (p := p) B o' hmd hh' (Om.rm hr hr') hz i1 hc1).err (congrArg _ hi) ?_))
    rw [hi] at i6
    rw [i6]; rfl
   | ok x =>
    obtain ⟨t, q⟩ := x
    refine br o' hmd hh' (by walk_at "u") (fun _ => by walk_at "u") (fun _ => by walk_at "u") (bA o' (by rfl) (by walk_at "pe") rfl (by walk_at "pe") ((r_token (b := b) (p := p) B o' hmd hh' (Om.rm hr hr') hz i1 hc1).ok (congrArg _ hi) ?_))
    rw [hi] at i6
    dsimp only at i6
    obtain ⟨j1, j2⟩ := fq i1 hc1 hi
    have j0 : 0 <= q := by exact (Om.q 1 2 (.i (.l .x0 (.k 10000)) (.i (.L .k0 .x1) (.i (.T .x1 (.c .x0)) (.i (.L (.a .x1 .k1) .x0) (.L .k0 .x0)))))) _ _ _ hz i1 hc1 j1
    obtain ⟨w3, w4⟩ := dO (b := b) (p := q) ((Om.q 0 1 (.i (.L .k0 .x0) (.L .k0 .x0))) _ j0) ((Om.q 1 1 (.i (.L .x0 (.c .x0)) (.L .x0 (.c .x0)))) _ _ j2)
    refine ⟨_, _, rfl, rfl, by walk_at "h", ?_⟩
    apply bI o' hmd (by rfl)
    refine cY (ds := ts.map tkV) (i := σ.heap.length) (d := tkV t) o' (by rfl) ⟨_, fun _ => by walk_at "u"⟩ (by walk_at "pe") (by walk_at "pe") aM (by simp; exact (Om.q 2 3 (.i (.l .x1 (.k 10000)) (.i (.L (.c .x0) .x2) (.i (.L (.a .x2 .k1) .x1) (.i (.L .x1 .x0) (.i (.L .x0 (.c .x1)) (.l .x0 (.k 1000000)))))))) _ _ _ _ _ hz i4 j1 w3 w4) ?_
    dsimp only
    rw [aF]
    apply aw o' hmd (by rfl)
    ·walk_at "pe"
    ·walk_at "h"
    with_reducible apply aa
    refine ⟨n, Nat.lt_succ_self n, whAt b q, ts ++ [t], some (tkV t), by simp, by exact (Om.q 0 3 (.i (.L .k0 .x2) (.i (.L (.a .x2 .k1) .x1) (.i (.L .x1 .x0) (.L .k0 .x0))))) _ _ _ i1 j1 w3, w4, by exact (Om.q 2 3 (.i (.L (.c .x1) (.a .x2 (.c (.a .x0 .k1)))) (.i (.L (.a .x2 .k1) .x1) (.i (.L .x1 .x0) (.L (.c .x1) (.a .x0 (.c .x0))))))) _ _ _ _ _ i3 j1 w3, by simp; exact (Om.q 1 3 (.i (.L (.c .x0) .x2) (.i (.L (.a .x2 .k1) .x1) (.i (.L .x1 .x0) (.L (.a (.c .x0) .k1) .x0))))) _ _ _ _ i4 j1 w3, ?_⟩
    cases hf : tokF b n (whAt b q) with
    | error a => rw [hf] at i6; exact i6
    | ok us => rw [hf] at i6; simpa using i6
  ·have hc1 : ¬ p < b.length := by simpa using hc1
   have e : r0 = .ok ts := by
    cases n with
    | zero => simpa [tokF] using i6
    | succ n =>
     unfold tokF at i6
     rw [if_neg hc1] at i6
     simpa using i6
   with_reducible apply dU
   with_reducible refine iH ?_
   with_reducible refine am (v := .loc σ.heap.length) (by walk_at "pe") ⟨σ.heap.length, ts.map tkV, rfl, aM, ?_⟩
   refine bx (G := G) hcl ?_ ?_ (dA _ ts)
   ·show ((σ.heap ++ [_]).set _ none).take _ = _
    rw [aF]; exact gj
   ·rw [e]; rfl
theorem p_without (B : Base G) (o : X.Ok G) (hh0 : X.A.handled = none) (hr : 1 <= X.room) {ts : List Tk} (hz : ts.length <= 100000) : PC G X (.glob "without_comments") [.lst (ts.map tkV)] σ (.lst ((bare ts).map tkV)) := by
 refine aq ["tokens"] [] [] o (Om.lo hr) B.f_without_comments (by walk_at "dk") .nil (dA _ _) fun X' o' hmd hh hr' => ?_
 dsimp only [mkLoc, List.map]
 have hh' : X'.A.handled = none := hh.trans hh0
 refine ac (v := .lst (((ts.map tkV).filter fun d => match d with | .tup (.str k :: _) => decide (k ≠ S "comment") | _ => false).map fun d => d)) ?_ ?_
 ·refine dJ [] (fun d => match d with | .tup (.str k :: _) => decide (k ≠ S "comment") | _ => false) (fun d => d) (d := .lst (ts.map tkV)) o' hmd hh' (by rfl) .nil (fun _ _ => rfl) (fun _ => by walk_at "u") (by walk_at "pe") rfl rfl (by simp; exact Om.hi hz) ?_ ?_
  ·intro d hd X2 o2 hm2 hh2 hr2
   obtain ⟨t, ht, rfl⟩ := List.mem_map.mp hd
   show PT _ _ _ _ (decide (t.1 ≠ S "comment"))
   unfold tkV
   walk_at "pe"
  ·intro d hd _ X2 o2 hm2 hh2 hr2
   walk_at "pe"
 ·refine ⟨?_, rfl⟩
  rw [List.map_id']
  unfold bare
  rw [List.filter_map]
  rfl
end
noncomputable abbrev rdO (ts : List Tk) (a n : Int) : MO := .inst "DateReader" [("tokens", .lst (ts.map tkV)), ("at", .int a), ("length", .int n)]
noncomputable def al (ts : List Tk) (a n : Int) : Int := match ts[a.toNat]? with
 | some t => t.2.2
 | none => n
noncomputable def eI (w : List UInt8) : List Nat := w.map UInt8.toNat
noncomputable def ad (ts : List Tk) (a : Int) : List Nat := match ts[a.toNat]? with
 | some t => if t.1 = S "atom" then eI t.2.1 else []
 | none => []
noncomputable def isSg (ts : List Tk) (a : Int) (c : List UInt8) : Bool := match ts[a.toNat]? with
 | some t => decide (t.1 = S "sign") && decide (t.2.1 = c)
 | none => false
structure Rdr (ts : List Tk) (a : Int) : Prop where
 n : ts.length <= 10000
 w : ∀ t ∈ ts, t.1 = S "atom" -> t.2.1.length <= 10000
 a0 : 0 <= a
 a1 : a <= 20000
theorem bt {n : Nat} {ts : List Tk} {a k : Int} : (rdO ts a k).closed n = true := by
 exact Bool.and_eq_true_iff.mpr ⟨dA n ts, rfl⟩
set_option tactic.hygienic true in
theorem bF {ts : List Tk} {a : Int} (h : Rdr ts a) : (ad ts a).length <= 10000 /\ ∀ c ∈ ad ts a, c < 256 := by
 unfold ad
 split
 ·rename_i t ht
  split
  ·rename_i hk
   have := h.w t (List.mem_of_getElem? ht) hk
   refine ⟨by simpa [eI] using this, ?_⟩
   intro c hc
   obtain ⟨u, _, rfl⟩ := List.mem_map.mp hc
   exact u.toNat_lt
  ·exact ⟨by simp, by simp⟩
 ·exact ⟨by simp, by simp⟩
noncomputable def rcInit (H : List (Option MO)) (n : Int) : Except Int (List Tk) -> Except Int (V × List (Option MO))
 | .ok ts => .ok (.loc H.length, H ++ [some (rdO (bare ts) 0 n)])
 | .error a => .error a
theorem tokF_ok {b : List UInt8} : ∀ {n : Nat} {p : Int} {ts : List Tk}, 0 <= p -> p <= b.length -> tokF b n p = .ok ts -> (ts.length : Int) + p <= b.length := by
 intro n
 induction n with
 | zero => intro p ts _ hp h; obtain rfl := Except.ok.inj h; exact (Int.zero_add _).symm ▸ hp
 | succ n ih =>
  intro p ts h0 hp h
  refine iteE h (fun hl h => ?_) fun _ h => ?_
  rotate_left
  ·obtain rfl := Except.ok.inj h; exact (Int.zero_add _).symm ▸ hp
  generalize hi : bj b p = r at h
  cases r with
  | error => exact erE h
  | ok y =>
   obtain ⟨j1, j2⟩ := fq h0 hl hi
   have j0 := Int.le_trans (Om.za h0) j1
   obtain ⟨w1, w2⟩ := dO (b := b) (p := y.2) j0 j2
   dsimp only at h
   generalize hf : tokF b n (whAt b y.2) = r at h
   cases r with
   | error => exact erE h
   | ok z =>
    have := ih (Int.le_trans j0 w1) w2 hf
    refine okE (P := fun ts : List Tk => (ts.length : Int) + p <= b.length) h ?_
    exact (Om.q 2 3 (.i (.L (.a .x2 .k1) .x1) (.i (.L .x1 .x0) (.i (.L (.a (.c .x1) .x0) (.c .x0)) (.L (.a (.c (.a .x1 .k1)) .x2) (.c .x0)))))) _ _ _ _ _ j1 w1 this
theorem dQ {b : List UInt8} {ts : List Tk} (h : bh b = .ok ts) : ts.length <= b.length := by
 obtain ⟨w1, w2⟩ := dO (b := b) (p := 0) (by decide) ((Om.q 1 0 (.L .k0 (.c .x0))) _)
 have := tokF_ok w1 w2 h
 exact (Om.q 2 1 (.i (.L .k0 .x0) (.i (.L (.a (.c .x1) .x0) (.c .x0)) (.l .x1 .x0)))) _ _ _ w1 this
section
variable {G : Gx} {X : Fx} {σ τ : St} {Ψ : Ps} {Φ : V -> St -> Prop} {ΦF : Fl -> St -> Prop}
theorem jj (B : Base G) (o : X.Ok G) (hf : X.md = .fr) (hh0 : X.A.handled = none) (hr : 9 <= X.room) {b : List UInt8} (hz : b.length <= 10000) : RC G X (.glob "DateReader") [.bytes b] σ (rcInit σ.heap b.length (bh b)) := by
 have hz' : b.length <= 100000 := by exact Om.hi hz
 refine rnew ["self", "octets"] [] [("without_comments", .glob "without_comments"), ("tokens_of", .glob "tokens_of"), ("len", .val (.builtin "len"))] o hf (Om.lo hr) B.Reader (by walk_at "dk")
  (.cons (av B.f_without_comments) (.cons (av B.f_tokens_of) (.cons B.len .nil))) fun X' o' hmd hh hr' hsc hcl => ?_
 dsimp only [mkLoc, List.map]
 have hh' : X'.A.handled = none := hh.trans hh0
 refine ss_setx o' (by rfl) B.Reader (by decide) ?_
 refine cv o' (by rfl) (am (v := .glob "without_comments") (by walk_at "pe") ⟨rfl, fun q => bX rfl (ex_rc o' (by rfl) (by walk_at "pe") rfl (by walk_at "pe") (jh (b := b) B o' hmd hh' ((Om.q 3 0 (.i (.l (.k 9) .x2) (.i (.e .x1 .x0) (.i (.o (.a (.l (.k 2) .x2) (.e (.a .x0 (.k 2)) .x2)) (.a (.t .x2 (.k 2)) (.e .x0 .k0))) (.l (.k 7) .x1))))) _ _ _ hr hr' (Om.sbo _ _)) hz) ?_ ?_)⟩)
 ·intro v H hv
  cases hi : bh b with
  | error a => rw [hi] at hv; injection hv
  | ok ts =>
   rw [hi] at hv
   obtain ⟨rfl, rfl⟩ := Prod.mk.inj (Except.ok.inj hv)
   have hlen := dQ hi
   refine eF (eB (p_without B o' hh' ((Om.q 3 0 (.i (.l (.k 9) .x2) (.i (.e .x1 .x0) (.i (.o (.a (.l (.k 2) .x2) (.e (.a .x0 (.k 2)) .x2)) (.a (.t .x2 (.k 2)) (.e .x0 .k0))) (.l .k1 .x1))))) _ _ _ hr hr' (Om.sbo _ _)) ((Om.q 2 0 (.i (.l .x1 (.k 10000)) (.i (.l .x0 .x1) (.l .x0 (.k 100000))))) _ _ hz hlen)) ?_)
   refine ⟨σ.heap.length, [], by walk_at "pe", aM, by decide, ?_⟩
   dsimp only
   rw [aF]
   refine bZ (i := σ.heap.length) (fs := [("tokens", .lst ((bare ts).map tkV))]) (d := .int 0) o' (by rfl) B.Reader (by decide) (by walk_at "pe") (by walk_at "pe") aM (by simp) ?_
   try dsimp only
   rw [aF]
   refine bZ (i := σ.heap.length) (fs := [("tokens", .lst ((bare ts).map tkV)), ("at", .int 0)]) (d := .int b.length) o' (by rfl) B.Reader (by decide) (by walk_at "pe") (by walk_at "pe") aM (by simp) ?_
   dsimp only
   rw [aF]
   with_reducible apply aa
   refine ⟨σ.heap ++ [some (rdO (bare ts) 0 b.length)], σ.heap.length + 1, rfl, rfl, Nat.le_refl _, ?_, ?_⟩
   ·exact List.take_of_length_le (by simp)
   ·rw [<- aF (x := some (.inst "DateReader" []))]
    exact ao hcl bt
 ·intro a ha
  cases hi : bh b with
  | ok x => rw [hi] at ha; injection ha
  | error a' => rw [hi] at ha; cases ha; rfl
theorem S_e' : (Str.ofString "").cps.toList = [] := S_e
theorem gt {ts : List Tk} {a : Int} {t : Tk} (h : ts[a.toNat]? = some t) : (ts.map tkV)[a.toNat]? = some (.tup [.str t.1, .bytes t.2.1, .int t.2.2]) := by rw [List.getElem?_map, h]; rfl
theorem ft {ts : List Tk} {a : Int} (h0 : 0 <= a) (h : a < ts.length) : ∃ t, ts[a.toNat]? = some t := ⟨ts[a.toNat]'(by exact (Om.q 2 1 .f1) _ _ _ h0 h (Om.tno _)), List.getElem?_eq_getElem (by exact (Om.q 2 1 .f1) _ _ _ h0 h (Om.tno _))⟩
theorem dR {ts : List Tk} {a : Int} (h : ¬ a < ts.length) : ts[a.toNat]? = none := List.getElem?_eq_none ((Om.q 2 1 (.i (.n (.T .x0 (.c .x1))) (.i (.o (.a (.L .k0 .x0) (.E (.c .x0) .x0)) (.a (.T .x0 .k0) (.e .x0 .k0))) (.l .x1 .x0)))) _ _ _ h (Om.tno _))
theorem p_place (B : Base G) (o : X.Ok G) (hh0 : X.A.handled = none) (hr : 1 <= X.room) {i : Nat} {ts : List Tk} {a n : Int} (hi : σ.heap[i]? = some (some (rdO ts a n))) (R : Rdr ts a) : PC G X (.meth "DateReader" "place") [.loc i] σ (.int (al ts a n)) := by
 have r1 := R.n
 have r2 := R.a0
 have r3 := R.a1
 have r4 : (ts.map tkV).length <= 10000 := by rw [List.length_map]; exact r1
 refine fy ["self"] [] [("len", .val (.builtin "len"))] o (Om.lo hr) B.m_place (by walk_at "dk") (.cons B.len .nil) rfl fun X' o' hmd hh hr' => ?_
 dsimp only [mkLoc, List.map]
 by_cases hl : a < ts.length
 ·obtain ⟨t, ht⟩ := ft r2 hl
  have hs := gt ht
  refine ac (v := .int (if decide (a < ((ts.map tkV).length : Int)) = true then t.2.2 else n)) ?_ ?_
  ·walk_at "pe"
  ·refine ⟨?_, rfl⟩
   unfold al
   rw [ht, List.length_map, if_pos (by simpa using hl)]
 ·refine ac (v := .int (if decide (a < ((ts.map tkV).length : Int)) = true then 0 else n)) ?_ ?_
  ·with_reducible apply gy
   ·walk_at "pe"
   ·intro hc
    exfalso
    simp at hc
    exact hl hc
   ·intro hc
    walk_at "pe"
  ·refine ⟨?_, rfl⟩
   unfold al
   rw [dR hl, List.length_map, if_neg (by simpa using hl)]
theorem flat_codes : ∀ w : List UInt8, aX [] (w.map fun c => [c.toNat]) = eI w := fun w => by
 have := joinL_ones (eI w)
 unfold eI at this ⊢
 rw [List.map_map] at this
 exact this
theorem p_atom (B : Base G) (o : X.Ok G) (hh0 : X.A.handled = none) (hr : 1 <= X.room) {i : Nat} {ts : List Tk} {a n : Int} (hi : σ.heap[i]? = some (some (rdO ts a n))) (R : Rdr ts a) : PC G X (.meth "DateReader" "atom") [.loc i] σ (.str (ad ts a)) := by
 have r1 := R.n
 have r2 := R.a0
 have r3 := R.a1
 have r4 : (ts.map tkV).length <= 10000 := by rw [List.length_map]; exact r1
 refine fy ["self"] [] [("len", .val (.builtin "len"))] o (Om.lo hr) B.m_atom (by walk_at "dk") (.cons B.len .nil) rfl fun X' o' hmd hh hr' => ?_
 dsimp only [mkLoc, List.map]
 have hh' : X'.A.handled = none := hh.trans hh0
 by_cases hl : a < ts.length
 ·obtain ⟨t, ht⟩ := ft r2 hl
  have hs := gt ht
  apply az
  ·walk_at "pe"
  ·intro hc
   with_reducible apply ac
   ·walk_at "pe"
   ·refine ⟨?_, rfl⟩
    unfold ad
    rw [ht]
    simp at hc
    rcases hc with hc | hc
    ·exact ((Om.q 1 1 .f32) _ _ hl hc : False).elim
    ·dsimp only; rw [if_neg hc, S_e']
  ·intro hc
   have hk : t.1 = S "atom" := by simp at hc; exact hc.2
   have hw := R.w t (List.mem_of_getElem? ht) hk
   with_reducible apply aa
   with_reducible refine ac (v := .str (aX [] (t.2.1.map fun c => [c.toNat]))) ?_ ?_
   ·with_reducible refine aI (by assumption) (by walk_at "u") ⟨_, fun _ => by walk_at "u"⟩ b4 dn rfl (ds := [.lst ((t.2.1.map fun c => V.int c.toNat).map fun d => .str [oneOf d])]) ?_ ?_
    ·apply ah (by rfl)
     ·refine bV [("chr", .val (.builtin "chr"))] (fun d => .str [oneOf d]) (d := .bytes t.2.1) o' hmd hh' (by rfl) (.cons B.chr .nil) (fun _ _ => rfl) (fun _ => by walk_at "u") (by walk_at "pe") rfl rfl (by simp; exact Om.hi hw) ?_
      intro d hd X2 o2 hm2 hh2 hr2
      obtain ⟨c, hc, rfl⟩ := List.mem_map.mp hd
      have := c.toNat_lt
      show PE _ _ _ _ (.str [((c.toNat : Nat) : Int).toNat])
      walk_at "pe"
     ·with_reducible exact pa_nil
    ·exact ei (sep := []) (ds := (t.2.1.map fun c => V.int c.toNat).map fun d => .str [oneOf d]) (bs := t.2.1.map fun c => [c.toNat]) (by rw [List.map_map, List.map_map]; rfl) o' (by decide) (by simp; exact Om.hi hw) (by have := ey (fun c => c) (eI t.2.1); unfold eI at this; rw [List.map_map] at this; rw [show (fun c : UInt8 => [c.toNat]) = (fun c => [c]) ∘ UInt8.toNat from rfl, this]; simp; exact Om.hi hw)
   ·refine ⟨?_, rfl⟩
    rw [flat_codes]
    unfold ad
    rw [ht]; dsimp only; rw [if_pos hk]
 ·refine az (c := decide (((ts.map tkV).length : Int) <= a) || false) ?_ ?_ ?_
  ·with_reducible refine bB (ca (by walk_at "pe") fun hc => ?_)
   exfalso; simp at hc; exact (Om.q 1 1 .f7) _ _ hl hc
  ·intro hc
   with_reducible apply ac
   ·walk_at "pe"
   ·refine ⟨?_, rfl⟩
    unfold ad
    rw [dR hl, S_e']
  ·intro hc
   exfalso; simp at hc; exact (Om.q 1 1 .f7) _ _ hl hc
theorem r_skip (B : Base G) (o : X.Ok G) (hf : X.md = .fr) (hh0 : X.A.handled = none) (hr : 1 <= X.room) {i : Nat} {ts : List Tk} {a n : Int} {c : List UInt8} (hi : σ.heap[i]? = some (some (rdO ts a n))) (R : Rdr ts a) : RC G X (.meth "DateReader" "skip") [.loc i, .bytes c] σ (.ok (.bool (isSg ts a c), if isSg ts a c = true then σ.heap.set i (some (rdO ts (a + 1) n)) else σ.heap)) := by
 have r1 := R.n
 have r2 := R.a0
 have r3 := R.a1
 have r4 : (ts.map tkV).length <= 10000 := by rw [List.length_map]; exact r1
 refine rmeth ["self", "sign"] [] [("len", .val (.builtin "len"))] o hf (Om.lo hr) B.m_skip (by walk_at "dk") (.cons B.len .nil) fun X' o' hmd hh hr' hsc hcl => ?_
 dsimp only [mkLoc, List.map]
 have hh' : X'.A.handled = none := hh.trans hh0
 by_cases hl : a < ts.length
 ·obtain ⟨t, ht⟩ := ft r2 hl
  have hs := gt ht
  have hsg : isSg ts a c = (decide (t.1 = S "sign") && decide (t.2.1 = c)) := by unfold isSg; rw [ht]
  refine az (c := decide (((ts.map tkV).length : Int) <= a) || !(feqs [.str t.1, .bytes t.2.1] [.str (S "sign"), .bytes c])) ?_ ?_ ?_
  ·with_reducible refine bB (ca (by walk_at "pe") fun hc => eY ?_)
   walk_at "pe"
  ·intro hc
   with_reducible apply ac
   ·walk_at "pe"
   ·refine bn (G := G) hcl rfl ?_ rfl
    have : isSg ts a c = false := by
     rw [hsg]
     simp only [List.length_map, Bool.or_eq_true, decide_eq_true_eq] at hc
     rcases hc with hc | hc
     ·exact ((Om.q 1 1 .f32) _ _ hl hc : False).elim
     ·simp [feqs, feq] at hc
      rcases hc with h1 | h1 <;> simp [h1]
    rw [this]; rfl
  ·intro hc
   have hq : isSg ts a c = true := by
    rw [hsg]
    rw [Bool.or_eq_false_iff] at hc
    have := hc.2
    simpa [feqs, feq] using this
   with_reducible apply aa
   refine bZ (i := i) (fs := [("tokens", .lst (ts.map tkV)), ("at", .int a), ("length", .int n)]) (d := .int (a + 1)) o' (by rfl) B.Reader (by decide) (by walk_at "pe") (by walk_at "pe") hi (by simp) ?_
   with_reducible apply ac
   ·walk_at "pe"
   ·rw [hq]
    refine ⟨_, _, _, σ.heap.length, rfl, rfl, rfl, Nat.le_refl _, ?_, rfl, ao hcl bt⟩
    exact List.take_of_length_le (by simp)
 ·have hq : isSg ts a c = false := by unfold isSg; rw [dR hl]
  refine az (c := decide (((ts.map tkV).length : Int) <= a) || false) ?_ ?_ ?_
  ·with_reducible refine bB (ca (by walk_at "pe") fun hc => ?_)
   exfalso; simp at hc; exact (Om.q 1 1 .f7) _ _ hl hc
  ·intro hc
   with_reducible apply ac
   ·walk_at "pe"
   ·refine bn (G := G) hcl rfl ?_ rfl
    rw [hq]; rfl
  ·intro hc
   exfalso; simp at hc; exact (Om.q 1 1 .f7) _ _ hl hc
end
local macro_rules | `(tactic| walk_at "own") => `(tactic| (first | apply kf | apply p_weekday | apply p_is_day | apply p_is_time) <;> walk_at "sd")
structure Mom where
 year : Int
 month : Int
 day : Int
 hour : Int
 minute : Int
 second : Int
 zone : Int
noncomputable abbrev momF (t : Mom) : List (Str × V) := [("year", .int t.year), ("month", .int t.month), ("day", .int t.day), ("hour", .int t.hour), ("minute", .int t.minute), ("second", .int t.second), ("zone", .int t.zone)]
noncomputable abbrev momV (t : Mom) : V := .obj "Moment" (momF t)
noncomputable abbrev momT (t : Mom) : List V := [.int t.year, .int t.month, .int t.day, .int t.hour, .int t.minute, .int t.second, .int t.zone]
section
variable {G : Gx} {X : Fx} {σ τ : St} {Ψ : Ps} {Φ : V -> St -> Prop} {ΦF : Fl -> St -> Prop}
theorem kj {n : Nat} {t : Mom} : (MO.inst "Moment" (momF t)).closed n = true := rfl
theorem r_moment (B : Base G) (o : X.Ok G) (hf : X.md = .fr) (hh0 : X.A.handled = none) (hr : 3 <= X.room) {t : Mom} : RC G X (.glob "Moment") [.int t.year, .int t.month, .int t.day, .int t.hour, .int t.minute, .int t.second, .int t.zone] σ (.ok (.loc σ.heap.length, σ.heap ++ [some (.inst "Moment" (momF t))])) := by
 refine rnew ["self", "year", "month", "day", "hour", "minute", "second", "zone"] [] [] o hf (Om.lo hr) B.Moment ⟨by rfl, fun kV doc pm an cdv ct => of8 (fun _ _ _ _ _ _ _ _ => rfl), rfl, by decide, by rfl, by rfl⟩
  .nil fun X' o' hmd hh hr' hsc hcl => ?_
 dsimp only [mkLoc, List.map]
 have hh' : X'.A.handled = none := hh.trans hh0
 refine bZ (i := σ.heap.length) (fs := []) (d := .int t.year) o' (by rfl) B.Moment (by decide) (by walk_at "pe") (by walk_at "pe") aM (by simp) ?_
 try dsimp only
 rw [aF]
 refine bZ (i := σ.heap.length) (fs := (momF t).take 1) (d := .int t.month) o' (by rfl) B.Moment (by decide) (by walk_at "pe") (by walk_at "pe") aM (by simp) ?_
 dsimp only
 rw [aF]
 refine bZ (i := σ.heap.length) (fs := (momF t).take 2) (d := .int t.day) o' (by rfl) B.Moment (by decide) (by walk_at "pe") (by walk_at "pe") aM (by simp) ?_
 dsimp only
 rw [aF]
 refine bZ (i := σ.heap.length) (fs := (momF t).take 3) (d := .int t.hour) o' (by rfl) B.Moment (by decide) (by walk_at "pe") (by walk_at "pe") aM (by simp) ?_
 dsimp only
 rw [aF]
 refine bZ (i := σ.heap.length) (fs := (momF t).take 4) (d := .int t.minute) o' (by rfl) B.Moment (by decide) (by walk_at "pe") (by walk_at "pe") aM (by simp) ?_
 dsimp only
 rw [aF]
 refine bZ (i := σ.heap.length) (fs := (momF t).take 5) (d := .int t.second) o' (by rfl) B.Moment (by decide) (by walk_at "pe") (by walk_at "pe") aM (by simp) ?_
 dsimp only
 rw [aF]
 refine bZ (i := σ.heap.length) (fs := (momF t).take 6) (d := .int t.zone) o' (by rfl) B.Moment (by decide) (by walk_at "pe") (by walk_at "pe") aM (by simp) ?_
 dsimp only
 rw [aF]
 with_reducible apply aa
 refine ⟨σ.heap ++ [some (.inst "Moment" (momF t))], σ.heap.length + 1, rfl, rfl, Nat.le_refl _, ?_, ?_⟩
 ·exact List.take_of_length_le (by simp)
 ·rw [<- aF (x := some (.inst "Moment" []))]
  exact ao hcl kj
theorem iF (B : Base G) (o : X.Ok G) (hf : X.md = .fr) (hh0 : X.A.handled = none) (hr : 3 <= X.room) {p pos : Pos} {es : List Expr} {t : Mom} (hp : ag es = true) (hg : HasG "Moment" (.glob "Moment") σ.glb) (h : PA G X es σ (momT t)) (k : Φ (momV t) { σ with heap := σ.heap ++ [none] }) : EX G X (.Call (.Name "Moment" p) es [] pos) Φ Ψ σ := by
 with_reducible refine lg (ex_rc o hp (au o hg) rfl h (r_moment (t := t) B o hf hh0 hr) (fun v H hv => ?_) fun a ha => by injection ha)
 obtain ⟨rfl, rfl⟩ := Prod.mk.inj (Except.ok.inj hv)
 refine ⟨_, "Moment", momF t, rfl, aM, ?_⟩
 show Φ _ { σ with heap := (σ.heap ++ [_]).set _ none }
 rw [aF]; exact k
theorem p_told (B : Base G) (o : X.Ok G) (hr : 1 <= X.room) {t : Mom} : PC G X (.meth "Moment" "told") [momV t] σ (.tup (momT t)) := by
 refine fy ["self"] [] [] o (Om.lo hr) B.m_told (by walk_at "dk") .nil rfl fun X' o' hmd hh hr' => ?_
 dsimp only [mkLoc, List.map]
 apply ac
 ·walk_at "pe"
 ·exact ⟨rfl, rfl⟩
structure MomOk (t : Mom) : Prop where
 y1 : 1 <= t.year
 y2 : t.year <= 9999
 m1 : 1 <= t.month
 m2 : t.month <= 12
 d1 : 1 <= t.day
 d2 : t.day <= aB t.year t.month
 h1 : 0 <= t.hour
 h2 : t.hour <= 23
 i1 : 0 <= t.minute
 i2 : t.minute <= 59
 s1 : 0 <= t.second
 s2 : t.second <= 60
 z1 : -5999 <= t.zone
 z2 : t.zone <= 5999
theorem p_check (B : Base G) (o : X.Ok G) (hr : 4 <= X.room) {t : Mom} (M : MomOk t) : PC G X (.glob "check_moment") [momV t] σ .none := by
 refine dN (Ψ := noPs) (names := ["moment"]) (others := ["is_right"]) (glb := [("is_day", .glob "is_day"), ("is_time", .glob "is_time"), ("abs", .val (.builtin "abs")), ("MOST_ZONE", .int 5999), ("WordFault", .glob "WordFault")]) o (Om.lo hr) B.f_check_moment (.inr fun a h => h) (by walk_at "dk")
  (.cons (av B.f_is_day) (.cons (av B.f_is_time) (.cons B.abs (.cons B.MOST_ZONE (.cons B.word.gls .nil))))) fun X' o' hmd hh hr' hsc hcl => ?_
 dsimp only [mkLoc, List.map]
 obtain ⟨y1, y2, m1, m2, d1, d2, h1, h2, i1, i2, s1, s2, z1, z2⟩ := M
 apply aw o' hmd (by rfl)
 ·walk_at "pe"
 ·walk_at "h"
 with_reducible apply az
 ·walk_at "pe"
 ·intro hc
  exfalso
  have e1 : ew t.year t.month t.day = true := by unfold ew; simp; exact (Om.q 0 4 (.i (.L .k1 .x3) (.i (.L .x3 (.k 9999)) (.i (.L .k1 .x2) (.i (.L .x2 (.k 12)) (.i (.L .k1 .x1) (.i (.L .x1 .x0) (.a (.a (.L .k1 .x3) (.L .x3 (.k 9999))) (.a (.a (.L .k1 .x2) (.L .x2 (.k 12))) (.a (.L .k1 .x1) (.L .x1 .x0))))))))))) _ _ _ _ y1 y2 m1 m2 d1 d2
  have e2 : cn t.hour t.minute t.second = true := by unfold cn; simp; exact (Om.q 0 3 (.i (.L .k0 .x2) (.i (.L .x2 (.k 23)) (.i (.L .k0 .x1) (.i (.L .x1 (.k 59)) (.i (.L .k0 .x0) (.i (.L .x0 (.k 60)) (.a (.a (.L .k0 .x2) (.L .x2 (.k 23))) (.a (.a (.L .k0 .x1) (.L .x1 (.k 59))) (.a (.L .k0 .x0) (.L .x0 (.k 60)))))))))))) _ _ _ h1 h2 i1 i2 s1 s2
  rw [e1, e2] at hc
  simp at hc
  split at hc <;> (first | exact (Om.q 0 1 (.i (.L (.g (.k 5999)) .x0) (.i (.L .x0 (.k 5999)) (.i (.T .x0 .k0) (.i (.T (.k 5999) (.g .x0)) .f))))) _ z1 z2 (by assumption) hc | exact (Om.q 0 1 (.i (.L (.g (.k 5999)) .x0) (.i (.L .x0 (.k 5999)) (.i (.n (.T .x0 .k0)) (.i (.T (.k 5999) .x0) .f))))) _ z1 z2 (by assumption) hc)
 ·intro hc
  with_reducible apply aa
  with_reducible apply aa
  refine ⟨.none, rfl, σ.heap.length, Nat.le_refl _, ?_, rfl, ?_⟩
  ·rw [List.take_length]; exact hcl
  ·rw [List.take_length]; exact ⟨rfl, rfl⟩
end
theorem jB {n : Nat} : ∀ c ∈ figs n, 48 <= c /\ c <= 57 := by
 intro c hc
 unfold figs at hc
 obtain ⟨ch, hch, e⟩ := List.mem_map.mp hc
 have h := Nat.isDigit_of_mem_toDigits (b := 10) (by decide) (by decide) hch
 rw [<- e]
 simp only [Char.isDigit, Bool.and_eq_true, decide_eq_true_eq, UInt32.le_iff_toNat_le] at h
 exact h
theorem aU {n w : Int} : ∀ c ∈ padI n w, 48 <= c /\ c <= 57 := by
 intro c hc
 unfold padI at hc
 rcases List.mem_append.mp hc with h | h
 ·rw [S0] at h
  obtain ⟨l, hl, hcl⟩ := List.mem_flatten.mp h
  rw [(List.mem_replicate.mp hl).2] at hcl
  rw [List.mem_singleton.mp hcl]; decide
 ·exact jB c h
noncomputable def aK (t : Mom) : List Nat := aX (S ":") [padI t.hour 2, padI t.minute 2, padI t.second 2] ++ S " " ++ bd t.zone
theorem fj {z : Int} (h0 : z < 1000000) (h1 : -1000000 < z) : (bd z).length <= 300 /\ ∀ c ∈ bd z, c < 128 := by
 obtain ⟨a1, a2, a3, a4⟩ := fd60 h0 h1
 have a5 : (iabs z).fmod 60 < 10 ^ 9 := by exact (Om.q 0 1 .f30) _ a3 a4
 have a6 := aG (w := 2) a1 a2 (by decide)
 have a7 := aG (w := 2) a3 a5 (by decide)
 have a8 : (if (decide (z < 0)) = true then S "-" else S "+").length = 1 := by split <;> rfl
 unfold bd
 refine ⟨by rw [List.length_append, List.length_append]; exact (Om.q 3 0 (.i (.l .x2 (.k 111)) (.i (.l .x1 (.k 111)) (.i (.e .x0 .k1) (.l (.a (.a .x0 .x2) .x1) (.k 300)))))) _ _ _ a6 a7 a8, fun c hc => ?_⟩
 rcases List.mem_append.mp hc with hc | hc
 ·rcases List.mem_append.mp hc with hc | hc
  ·have : ∀ c ∈ (if (decide (z < 0)) = true then S "-" else S "+"), c < 128 := by
    split
    ·decide +kernel
    ·decide +kernel
   exact this c hc
  ·have := aU c hc; exact (Om.q 1 0 .f3) _ this
 ·have := aU c hc; exact (Om.q 1 0 .f3) _ this
theorem cT {n : Int} (h0 : 0 <= n) (h1 : n < 1000000) : (padI n 2).length <= 111 := aG h0 ((Om.q 0 1 (.i (.L .k0 .x0) (.i (.T .x0 (.k 1000000)) (.T .x0 (.k 1000000000))))) _ h0 h1) (by decide)
theorem fc {t : Mom} (M : MomOk t) : (aK t).length <= 1000 /\ ∀ c ∈ aK t, c < 128 := by
 obtain ⟨y1, y2, m1, m2, d1, d2, h1, h2, i1, i2, s1, s2, z1, z2⟩ := M
 obtain ⟨l1, l2⟩ := fj (z := t.zone) ((Om.q 0 1 .f33) _ z1 z2) ((Om.q 0 1 .f34) _ z1 z2)
 have p1 := cT (n := t.hour) ((Om.q 0 1 .f35) _ h1 h2) ((Om.q 0 1 .f72) _ h1 h2)
 have p2 := cT (n := t.minute) ((Om.q 0 1 .f36) _ i1 i2) ((Om.q 0 1 .f73) _ i1 i2)
 have p3 := cT (n := t.second) ((Om.q 0 1 .f37) _ s1 s2) ((Om.q 0 1 .f74) _ s1 s2)
 have c1 : (S ":").length = 1 := rfl
 have c2 : (S " ").length = 1 := rfl
 have k1 : ∀ c ∈ S ":", c < 128 := by decide +kernel
 have k2 : ∀ c ∈ S " ", c < 128 := by decide +kernel
 unfold aK
 simp only [b6, b5, gC]
 refine ⟨by simp only [List.length_append]; exact (Om.q 6 0 (.i (.l .x5 (.k 300)) (.i (.l .x4 (.k 111)) (.i (.l .x3 (.k 111)) (.i (.l .x2 (.k 111)) (.i (.e .x1 .k1) (.i (.e .x0 .k1) (.l (.a (.a (.a (.a .x4 .x1) (.a (.a .x3 .x1) .x2)) .x0) .x5) (.k 1000))))))))) _ _ _ _ _ _ l1 p1 p2 p3 c1 c2, fun c hc => ?_⟩
 simp only [List.mem_append] at hc
 rcases hc with (((hc | hc) | ((hc | hc) | hc)) | hc) | hc
 ·have := aU c hc; exact (Om.q 1 0 .f3) _ this
 ·exact k1 c hc
 ·have := aU c hc; exact (Om.q 1 0 .f3) _ this
 ·exact k1 c hc
 ·have := aU c hc; exact (Om.q 1 0 .f3) _ this
 ·exact k2 c hc
 ·exact l2 c hc
noncomputable def aP (t : Mom) : List Nat := names7.getD (bR t.year t.month t.day).toNat []
noncomputable def ak (m : Int) : List Nat := names12.getD (m - 1).toNat []
noncomputable def aJ (t : Mom) : List Nat := aX (S " ") [aP t ++ S ",", figs t.day.toNat, ak t.month, padI t.year 4, aK t]
noncomputable def dC (t : Mom) : List UInt8 := (aJ t).map fun c => c.toUInt8
theorem names7_ok' : ∀ s ∈ names7, s.length <= 10 /\ ∀ c ∈ s, c < 128 := by decide +kernel
theorem names12_ok' : ∀ s ∈ names12, s.length <= 10 /\ ∀ c ∈ s, c < 128 := by decide +kernel
theorem dK {l : List (List Nat)} {k : Nat} (h : k < l.length) : l.getD k [] ∈ l := by
 rw [List.getD_eq_getElem?_getD, List.getElem?_eq_getElem h]; exact List.getElem_mem h
theorem cM (y m d : Int) : 0 <= bR y m d /\ bR y m d < 7 := ⟨Int.fmod_nonneg_of_pos _ (by decide), Int.fmod_lt_of_pos _ (by decide)⟩
theorem eO (t : Mom) : (aP t).length <= 10 /\ ∀ c ∈ aP t, c < 128 := by
 have := cM t.year t.month t.day
 exact names7_ok' _ (dK (by show _ < 7; exact (Om.q 1 1 .f75) _ _ this (Om.tno _)))
theorem cm {m : Int} (h1 : 1 <= m) (h2 : m <= 12) : (ak m).length <= 10 /\ ∀ c ∈ ak m, c < 128 := names12_ok' _ (dK (by show _ < 12; exact (Om.q 1 1 .f9) _ _ h1 h2 (Om.tno _)))
theorem fk {t : Mom} (M : MomOk t) : (aJ t).length <= 3000 /\ ∀ c ∈ aJ t, c < 128 := by
 obtain ⟨l1, l2⟩ := fc M
 obtain ⟨y1, y2, m1, m2, d1, d2, h1, h2, i1, i2, s1, s2, z1, z2⟩ := M
 have hd31 : aB t.year t.month <= 31 := by unfold aB; split; (split <;> decide); (split <;> decide)
 have p1 := aG (n := t.year) (w := 4) ((Om.q 0 1 .f2) _ y1 y2) ((Om.q 0 1 .f4) _ y1 y2) (by decide)
 have p2 := cW (n := t.day.toNat) ((Om.q 1 2 .f76) _ _ _ d1 d2 hd31 (Om.tno _))
 obtain ⟨n1, n2⟩ := eO t
 obtain ⟨n3, n4⟩ := cm m1 m2
 have c1 : (S ",").length = 1 := rfl
 have c2 : (S " ").length = 1 := rfl
 have k1 : ∀ c ∈ S ",", c < 128 := by decide +kernel
 have k2 : ∀ c ∈ S " ", c < 128 := by decide +kernel
 unfold aJ
 simp only [b6, b5, gC]
 refine ⟨by simp only [List.length_append]; exact (Om.q 7 0 (.i (.l .x6 (.k 1000)) (.i (.l .x5 (.k 111)) (.i (.l .x4 (.k 11)) (.i (.l .x3 (.k 10)) (.i (.l .x2 (.k 10)) (.i (.e .x1 .k1) (.i (.e .x0 .k1) (.l (.a (.a (.a .x3 .x1) .x0) (.a (.a .x4 .x0) (.a (.a .x2 .x0) (.a (.a .x5 .x0) .x6)))) (.k 3000)))))))))) _ _ _ _ _ _ _ l1 p1 p2 n1 n3 c1 c2, fun c hc => ?_⟩
 simp only [List.mem_append] at hc
 rcases hc with ((hc | hc) | hc) | (hc | hc) | (hc | hc) | (hc | hc) | hc
 ·exact n2 c hc
 ·exact k1 c hc
 ·exact k2 c hc
 ·have := jB c hc; exact (Om.q 1 0 .f3) _ this
 ·exact k2 c hc
 ·exact n4 c hc
 ·exact k2 c hc
 ·have := aU c hc; exact (Om.q 1 0 .f3) _ this
 ·exact k2 c hc
 ·exact l2 c hc
section
variable {G : Gx} {X : Fx} {σ τ : St} {Ψ : Ps} {Φ : V -> St -> Prop} {ΦF : Fl -> St -> Prop}
noncomputable def iOf : V -> Int
 | .int i => i
 | _ => 0
theorem jS (B : Base G) (o : X.Ok G) (hh0 : X.A.handled = none) (hr : 3 <= X.room) {t : Mom} (M : MomOk t) : PC G X (.glob "clock_text") [momV t] σ (.str (aK t)) := by
 obtain ⟨y1, y2, m1, m2, d1, d2, h1, h2, i1, i2, s1, s2, z1, z2⟩ := M
 obtain ⟨l1, l2⟩ := fj (z := t.zone) ((Om.q 0 1 .f33) _ z1 z2) ((Om.q 0 1 .f34) _ z1 z2)
 have p1 := cT (n := t.hour) ((Om.q 0 1 .f35) _ h1 h2) ((Om.q 0 1 .f72) _ h1 h2)
 have p2 := cT (n := t.minute) ((Om.q 0 1 .f36) _ i1 i2) ((Om.q 0 1 .f73) _ i1 i2)
 have p3 := cT (n := t.second) ((Om.q 0 1 .f37) _ s1 s2) ((Om.q 0 1 .f74) _ s1 s2)
 have c1 : (S ":").length = 1 := rfl
 have c2 : (S " ").length = 1 := rfl
 have jl : (aX (S ":") [padI t.hour 2, padI t.minute 2, padI t.second 2]).length <= 400 := by
  simp only [b6, b5, List.length_append]; exact (Om.q 4 0 .f77) _ _ _ _ p1 p2 p3 c1
 have jl2 : (aX (S ":") [padI t.hour 2, padI t.minute 2, padI t.second 2] ++ S " ").length <= 500 := by rw [List.length_append]; exact (Om.q 2 0 (.i (.e .x1 .k1) (.i (.l .x0 (.k 400)) (.l (.a .x0 .x1) (.k 500))))) _ _ c2 jl
 refine fz ["moment"] ["parts"] [("zone_text", .glob "zone_text")] o (Om.lo hr) B.f_clock_text (by walk_at "dk") (.cons (av B.f_zone_text) .nil) rfl fun X' o' hmd hh hr' hsc => ?_
 dsimp only [mkLoc, List.map]
 have hh' : X'.A.handled = none := hh.trans hh0
 refine gr [("padded", .glob "padded")] (fun d => .str (padI (iOf d) 2)) (d := .tup [.int t.hour, .int t.minute, .int t.second]) o' hmd hh' (by rfl) (.cons (av B.f_padded) .nil) (fun _ _ => rfl) (fun _ => by walk_at "u") (by rw [dD hmd]; unfold Fx.fenv; rw [hsc]; with_unfolding_all rfl) ?_ rfl rfl (by simp) ?_ (by walk_at "h") ?_
 ·walk_at "pe"
 ·intro d hd X2 o2 hm2 hh2 hr2
  simp only [List.mem_cons, List.not_mem_nil, or_false] at hd
  rcases hd with rfl | rfl | rfl
  ·dsimp only [iOf]; walk_at "pe"
  ·dsimp only [iOf]; walk_at "pe"
  ·dsimp only [iOf]; walk_at "pe"
 dsimp only [List.map, iOf]
 with_reducible refine ac (v := .str (aK t)) ?_ ⟨rfl, rfl⟩
 with_reducible refine ai (a := .str (aX (S ":") [padI t.hour 2, padI t.minute 2, padI t.second 2] ++ S " ")) (b := .str (bd t.zone)) ?_ ?_ (bC (by with_unfolding_all exact (Om.q 2 0 (.i (.l .x1 (.k 300)) (.i (.l .x0 (.k 500)) (.l (.a .x0 .x1) (.k 1000000))))) _ _ l1 jl2))
 ·with_reducible refine ai (a := .str (aX (S ":") [padI t.hour 2, padI t.minute 2, padI t.second 2])) (b := .str (S " ")) ?_ b4 (bC (by with_unfolding_all exact (Om.q 2 0 (.i (.e .x1 .k1) (.i (.l .x0 (.k 400)) (.l (.a .x0 .x1) (.k 1000000))))) _ _ c2 jl))
  with_reducible refine aI (by assumption) (by walk_at "u") ⟨_, fun _ => by walk_at "u"⟩ b4 dn rfl (ds := [.lst [.str (padI t.hour 2), .str (padI t.minute 2), .str (padI t.second 2)]]) ?_ ?_
  ·walk_at "pe"
  ·exact ei (sep := S ":") (ds := [.str (padI t.hour 2), .str (padI t.minute 2), .str (padI t.second 2)]) (bs := [padI t.hour 2, padI t.minute 2, padI t.second 2]) rfl o' (by decide) (by simp) (by simp only [List.flatten_cons, List.flatten_nil, List.length_append, List.length_nil]; exact (Om.q 3 0 (.i (.l .x2 (.k 111)) (.i (.l .x1 (.k 111)) (.i (.l .x0 (.k 111)) (.l (.a .x2 (.a .x1 (.a .x0 .k0))) (.k 1000000)))))) _ _ _ p1 p2 p3)
 ·walk_at "pe"
theorem p_write (B : Base G) (o : X.Ok G) (hh0 : X.A.handled = none) (hr : 6 <= X.room) {t : Mom} (M : MomOk t) : PC G X (.glob "write_date") [momV t] σ (.bytes (dC t)) := by
 obtain ⟨wl, wc⟩ := fk M
 obtain ⟨k1, k2⟩ := fc M
 have MM := M
 obtain ⟨y1, y2, m1, m2, d1, d2, h1, h2, i1, i2, s1, s2, z1, z2⟩ := MM
 have hd31 : aB t.year t.month <= 31 := by unfold aB; split; (split <;> decide); (split <;> decide)
 have p1 := aG (n := t.year) (w := 4) ((Om.q 0 1 .f2) _ y1 y2) ((Om.q 0 1 .f4) _ y1 y2) (by decide)
 have p2 := cW (n := t.day.toNat) ((Om.q 1 2 .f76) _ _ _ d1 d2 hd31 (Om.tno _))
 obtain ⟨n1, n2⟩ := eO t
 obtain ⟨n3, n4⟩ := cm m1 m2
 obtain ⟨w1, w2⟩ := cM t.year t.month t.day
 have c1 : (S ",").length = 1 := rfl
 have yb : t.year < 10 ^ 9 := by exact (Om.q 0 1 .f4) _ y1 y2
 have db : t.day < 10 ^ 9 := by exact (Om.q 0 2 (.i (.L .x1 .x0) (.i (.L .x0 (.k 31)) (.T .x1 (.k 1000000000))))) _ _ d2 hd31
 have db0 : 0 <= t.day := by exact (Om.q 0 1 (.i (.L .k1 .x0) (.i (.T .x0 (.k 1000000000)) (.L .k0 .x0)))) _ d1 db
 have yb0 : 0 <= t.year := by exact (Om.q 0 1 .f2) _ y1 y2
 have gd : (names7.map V.str)[(bR t.year t.month t.day).toNat]? = some (.str (aP t)) := by
  unfold aP
  rw [List.getElem?_map, List.getD_eq_getElem?_getD, List.getElem?_eq_getElem (by show _ < 7; exact (Om.q 1 1 .f78) _ _ w1 w2 (Om.tno _))]; rfl
 have gm : (names12.map V.str)[(t.month - 1).toNat]? = some (.str (ak t.month)) := by
  unfold ak
  rw [List.getElem?_map, List.getD_eq_getElem?_getD, List.getElem?_eq_getElem (by show _ < 12; exact (Om.q 1 1 .f9) _ _ m1 m2 (Om.tno _))]; rfl
 refine aq ["moment"] ["name", "words"] [("check_moment", .glob "check_moment"), ("DAYS", .tup (names7.map .str)), ("weekday", .glob "weekday"), ("str", .val (.type "str")), ("MONTHS", .tup (names12.map .str)), ("padded", .glob "padded"), ("clock_text", .glob "clock_text"), ("bytes", .val (.type "bytes"))] o (Om.lo hr) B.f_write_date (by walk_at "dk")
  (.cons (av B.f_check_moment) (.cons B.DAYS (.cons (av B.f_weekday) (.cons B.str (.cons B.MONTHS (.cons (av B.f_padded) (.cons (av B.f_clock_text) (.cons B.bytes .nil)))))))) rfl fun X' o' hmd hh hr' => ?_
 dsimp only [mkLoc, List.map]
 have hh' : X'.A.handled = none := hh.trans hh0
 refine bI o' hmd (by rfl) (cv o' (by rfl) (am (by walk_at "pe") ⟨rfl, fun q => cQ (vs := [momV t]) (by walk_at "pe") (eB (p_check B o' (Om.rm hr hr') M) ?_)⟩))
 refine aw (d := .str (aP t)) o' hmd (by rfl) ?_ (by walk_at "h") ?_
 ·with_reducible apply ar
  ·with_reducible exact au (by assumption) (by walk_at "h")
  ·walk_at "pe"
  ·exact pg_t o' w1 (by decide) gd
 refine aw (d := .lst [.str (aP t ++ S ","), .str (figs t.day.toNat), .str (ak t.month), .str (padI t.year 4), .str (aK t)]) o' hmd (by rfl) ?_ (by walk_at "h") ?_
 ·with_reducible refine pe_list (ah rfl ?_ (ah rfl ?_ (ah rfl ?_ (ah rfl ?_ (ah rfl ?_ pa_nil))))) (by simp)
  ·walk_at "pe"
  ·walk_at "pe"
  ·with_reducible apply ar
   ·with_reducible exact au (by assumption) (by walk_at "h")
   ·walk_at "pe"
   ·exact pg_t o' ((Om.q 0 1 .f10) _ m1 m2) (by decide) gm
  ·walk_at "pe"
  ·with_reducible apply bu (by assumption) (by walk_at "u")
   ·walk_at "pe"
   ·rfl
   ·walk_at "pe"
   ·exact jS B o' hh' (Om.rm hr hr') M
 with_reducible refine ac (v := .bytes (((aJ t).map fun c : Nat => (c : Int)).map fun n => n.toNat.toUInt8)) ?_ ?_
 ·with_reducible refine bu (by assumption) (by walk_at "u") (f := .val (.type "bytes")) (ds := [.lst (((aJ t).map fun c => V.str [c]).map fun d => .int (oneOf d))]) (by walk_at "pe") rfl (ah rfl ?_ pa_nil) ?_
  ·refine bV [("ord", .val (.builtin "ord"))] (fun d => .int (oneOf d)) (d := .str (aJ t)) o' hmd hh' (by rfl) (.cons B.ord .nil) (fun _ _ => rfl) (fun _ => by walk_at "u") ?_ rfl rfl (by simp; exact Om.hi wl) ?_
   ·with_reducible refine aI (by assumption) (by walk_at "u") ⟨_, fun _ => by walk_at "u"⟩ b4 dn rfl (ds := [.lst [.str (aP t ++ S ","), .str (figs t.day.toNat), .str (ak t.month), .str (padI t.year 4), .str (aK t)]]) ?_ ?_
    ·walk_at "pe"
    ·exact ei (sep := S " ") (ds := [.str (aP t ++ S ","), .str (figs t.day.toNat), .str (ak t.month), .str (padI t.year 4), .str (aK t)]) (bs := [aP t ++ S ",", figs t.day.toNat, ak t.month, padI t.year 4, aK t]) rfl o' (by decide) (by simp) (by simp only [List.flatten_cons, List.flatten_nil, List.length_append, List.length_nil]; exact (Om.q 6 0 (.i (.l .x5 (.k 1000)) (.i (.l .x4 (.k 111)) (.i (.l .x3 (.k 11)) (.i (.l .x2 (.k 10)) (.i (.l .x1 (.k 10)) (.i (.e .x0 .k1) (.l (.a (.a .x2 .x0) (.a .x3 (.a .x1 (.a .x4 (.a .x5 .k0))))) (.k 1000000))))))))) _ _ _ _ _ _ k1 p1 p2 n1 n3 c1)
   ·intro d hd X2 o2 hm2 hh2 hr2
    obtain ⟨c, hc, rfl⟩ := List.mem_map.mp hd
    dsimp only [oneOf]
    walk_at "pe"
  ·with_reducible refine jo (ns := (aJ t).map fun c : Nat => (c : Int)) (by rw [List.map_map, List.map_map]; walk_at "u") o' hh' ?_ (by simp; with_unfolding_all exact (Om.q 1 0 (.i (.l .x0 (.k 3000)) (.l .x0 (.k 1000000)))) _ wl)
   intro n hn
   obtain ⟨c, hc, rfl⟩ := List.mem_map.mp hn
   have := wc c hc
   exact (Om.q 1 0 .f79) _ this
 ·refine ⟨?_, rfl⟩
  unfold dC
  rw [List.map_map]
  rfl
end
local macro_rules | `(tactic| walk_at "own") => `(tactic| (first | apply p_place | apply p_atom | apply p_zone_in | apply jO) <;> walk_at "sd")
theorem Rdr.add {ts : List Tk} {a k : Int} (R : Rdr ts a) (h0 : 0 <= k) (h1 : a + k <= 20000) : Rdr ts (a + k) := ⟨R.n, R.w, by have := R.a0; exact (Om.q 0 2 (.i (.L .k0 .x1) (.i (.L .k0 .x0) (.L .k0 (.a .x0 .x1))))) _ _ h0 this, h1⟩
noncomputable def numR (ts : List Tk) (a n lo hi : Int) : Except Int (Int × Int) :=
 if (bE (ad ts a) && (decide (lo <= (ad ts a).length) && decide (((ad ts a).length : Int) <= hi))) = true then .ok (digitsVal (ad ts a), (ad ts a).length) else .error (al ts a n)
noncomputable def aW (ts : List Tk) (a n : Int) : Except Int ((Int × Int × Int) × Int) :=
 match numR ts a n 2 2 with
 | .error e => .error e
 | .ok (h, _) => if isSg ts (a + 1) [58] = false then .error (al ts (a + 1) n) else
  match numR ts (a + 2) n 2 2 with
  | .error e => .error e
  | .ok (m, _) => if isSg ts (a + 3) [58] = true then
    (match numR ts (a + 4) n 2 2 with
    | .error e => .error e
    | .ok (s, _) => .ok ((h, m, s), a + 5))
   else .ok ((h, m, 0), a + 3)
noncomputable def bv (t : List Nat) : Option Int := match b7 t with
 | some z => some z
 | none => bz t
section
variable {G : Gx} {X : Fx} {σ τ : St} {Ψ : Ps} {Φ : V -> St -> Prop} {ΦF : Fl -> St -> Prop}
noncomputable def rcN (ts : List Tk) (a n : Int) (i : Nat) (H : List (Option MO)) : Except Int (Int × Int) -> Except Int (V × List (Option MO))
 | .ok (v, k) => .ok (.tup [.int v, .int k], H.set i (some (rdO ts (a + 1) n)))
 | .error e => .error e
theorem gu (B : Base G) (o : X.Ok G) (hf : X.md = .fr) (hh0 : X.A.handled = none) (hr : 5 <= X.room) {i : Nat} {ts : List Tk} {a n lo hi : Int} (hi0 : σ.heap[i]? = some (some (rdO ts a n))) (R : Rdr ts a) (hhi : hi <= 100) : RC G X (.meth "DateReader" "number") [.loc i, .int lo, .int hi] σ (rcN ts a n i σ.heap (numR ts a n lo hi)) := by
 have r2 := R.a0
 obtain ⟨t1, t2⟩ := bF R
 refine rmeth ["self", "least_figures", "most_figures"] ["text"] [("is_figures", .glob "is_figures"), ("len", .val (.builtin "len")), ("WordFault", .glob "WordFault"), ("int", .val (.type "int"))] o hf (Om.lo hr) B.m_number (by walk_at "dk") (.cons (av B.f_is_figures) (.cons B.len (.cons B.word.gls (.cons B.int .nil)))) fun X' o' hmd hh hr' hsc hcl => ?_
 dsimp only [mkLoc, List.map]
 have hh' : X'.A.handled = none := hh.trans hh0
 apply aw o' hmd (by rfl)
 ·walk_at "pe"
 ·walk_at "h"
 with_reducible apply az
 ·walk_at "pe"
 ·intro hc
  refine bl B.word o' hmd hh' (Om.rm hr hr') (by rfl) (by walk_at "h") (by walk_at "pe") ⟨_, .inl rfl⟩ ?_
  unfold numR
  rw [if_neg]
  ·rfl
  ·intro q
   rw [Bool.and_eq_true] at q
   rw [q.1, q.2] at hc
   injection hc
 ·intro hc
  rw [Bool.or_eq_false_iff] at hc
  have q1 : bE (ad ts a) = true := by simpa using hc.1
  have q2 : (decide (lo <= (ad ts a).length) && decide (((ad ts a).length : Int) <= hi)) = true := by simpa using hc.2
  obtain ⟨hd, hne⟩ := aZ q1
  have hlen : (ad ts a).length <= 600 := by simp at q2; exact (Om.q 1 2 (.i (.L .x1 (.k 100)) (.i (.l .x0 (.k 10000)) (.i (.a (.L .x0 (.c .x0)) (.L (.c .x0) .x1)) (.l .x0 (.k 600)))))) _ _ _ hhi t1 q2
  with_reducible apply aa
  refine bZ (i := i) (fs := [("tokens", .lst (ts.map tkV)), ("at", .int a), ("length", .int n)]) (d := .int (a + 1)) o' (by rfl) B.Reader (by decide) (by walk_at "pe") (by walk_at "pe") hi0 (by simp) ?_
  with_reducible apply ac
  ·walk_at "pe"
  ·unfold numR
   rw [if_pos (by rw [q1, q2]; rfl)]
   refine ⟨_, _, _, σ.heap.length, rfl, rfl, rfl, Nat.le_refl _, ?_, rfl, ao hcl bt⟩
   exact List.take_of_length_le (by simp)
theorem r_need (B : Base G) (o : X.Ok G) (hf : X.md = .fr) (hh0 : X.A.handled = none) (hr : 5 <= X.room) {i : Nat} {ts : List Tk} {a n : Int} {c : Bool} {w : V} (hi0 : σ.heap[i]? = some (some (rdO ts a n))) (R : Rdr ts a) : RC G X (.meth "DateReader" "need") [.loc i, .bool c, w] σ (if c = true then .ok (.none, σ.heap.set i (some (rdO ts (a + 1) n))) else .error (al ts a n)) := by
 have r2 := R.a0
 refine rmeth ["self", "is_right", "what"] [] [("WordFault", .glob "WordFault")] o hf (Om.lo hr) B.m_need (by walk_at "dk") (.cons B.word.gls .nil) fun X' o' hmd hh hr' hsc hcl => ?_
 dsimp only [mkLoc, List.map]
 have hh' : X'.A.handled = none := hh.trans hh0
 apply az
 ·walk_at "pe"
 ·intro hc
  refine bl B.word o' hmd hh' (Om.rm hr hr') (by rfl) (by walk_at "h") (by walk_at "pe") ⟨_, .inl rfl⟩ ?_
  rw [if_neg (by simpa using hc)]
 ·intro hc
  have hc : c = true := by simpa using hc
  with_reducible apply aa
  refine bZ (i := i) (fs := [("tokens", .lst (ts.map tkV)), ("at", .int a), ("length", .int n)]) (d := .int (a + 1)) o' (by rfl) B.Reader (by decide) (by walk_at "pe") (by walk_at "pe") hi0 (by simp) ?_
  with_reducible apply aa
  rw [if_pos hc]
  refine ⟨_, _, _, σ.heap.length, rfl, rfl, rfl, Nat.le_refl _, ?_, rfl, ao hcl bt⟩
  exact List.take_of_length_le (by simp)
theorem iE (B : Base G) (o : X.Ok G) (hf : X.md = .fr) (hh0 : X.A.handled = none) (hr : 5 <= X.room) {oe : Expr} {es : List Expr} {apos pos pos' : Pos} {ie : Expr} {i : Nat} {ts : List Tk} {a n lo hi : Int} (hp : ag es = true)
  (he : ∃ pl : Env -> Sem Bool, ∀ env, eval (.Call (.Attribute oe "number" apos) es [] pos) env = (do
   let ov <- eval oe env
   standAt apos.atName
   let (f, first) <- holding [ov] (getMethod ov "number" (pl env))
   callWith pos f first (backTo pos (starEach es env)) (backToKw pos (keywordEach [] env))))
  (h1 : PE G X oe σ (.loc i)) (hi0 : σ.heap[i]? = some (some (rdO ts a n))) (h3 : PA G X es σ [.int lo, .int hi]) (R : Rdr ts a) (hhi : hi <= 100) (hie : ∀ σ, PE G X ie σ (.int 0))
  (hok : ∀ v k, numR ts a n lo hi = .ok (v, k) -> Φ (.int v) { σ with heap := σ.heap.set i (some (rdO ts (a + 1) n)) }) (herr : ∀ e, numR ts a n lo hi = .error e -> Ψ e σ.loc) :
  EX G X (.Subscript (.Call (.Attribute oe "number" apos) es [] pos) ie pos') Φ Ψ σ := by
 refine ex_idx o hie (by decide) (iD o hp he h1 (cP o B.Reader B.m_number hi0 (by walk_at "u")) rfl h3 (gu B o hf hh0 hr hi0 R hhi) (fun v H hv => ?_) fun e hv => ?_)
 ·cases hn : numR ts a n lo hi with
  | error e => rw [hn] at hv; injection hv
  | ok x =>
   obtain ⟨v, k⟩ := x
   rw [hn] at hv
   obtain ⟨rfl, rfl⟩ := Prod.mk.inj (Except.ok.inj hv)
   exact ⟨_, _, rfl, by simp, rfl, hok v k hn⟩
 ·cases hn : numR ts a n lo hi with
  | ok x => rw [hn] at hv; injection hv
  | error e' => rw [hn] at hv; cases hv; exact herr _ hn
theorem tx_skip (B : Base G) (o : X.Ok G) (hf : X.md = .fr) (hh0 : X.A.handled = none) (hr : 5 <= X.room) {oe : Expr} {es : List Expr} {apos pos : Pos} {i : Nat} {ts : List Tk} {a n : Int} {c : List UInt8} {ΦB : Bool -> St -> Prop} (hp : ag es = true)
  (he : ∃ pl : Env -> Sem Bool, ∀ env, eval (.Call (.Attribute oe "skip" apos) es [] pos) env = (do
   let ov <- eval oe env
   standAt apos.atName
   let (f, first) <- holding [ov] (getMethod ov "skip" (pl env))
   callWith pos f first (backTo pos (starEach es env)) (backToKw pos (keywordEach [] env))))
  (h1 : PE G X oe σ (.loc i)) (hi0 : σ.heap[i]? = some (some (rdO ts a n))) (h3 : PA G X es σ [.bytes c]) (R : Rdr ts a)
  (hok : ΦB (isSg ts a c) { σ with heap := if isSg ts a c = true then σ.heap.set i (some (rdO ts (a + 1) n)) else σ.heap }) :
  TX G X (.Call (.Attribute oe "skip" apos) es [] pos) ΦB Ψ σ := by
 refine tx_rc (by rfl) (iD o hp he h1 (cP o B.Reader B.m_skip hi0 (by walk_at "u")) rfl h3 (r_skip B o hf hh0 (Om.lo hr) hi0 R) (fun v H hv => ?_) fun e hv => by injection hv)
 obtain ⟨rfl, rfl⟩ := Prod.mk.inj (Except.ok.inj hv)
 exact ⟨_, rfl, hok⟩
noncomputable def rcC (ts : List Tk) (n : Int) (i : Nat) (H : List (Option MO)) : Except Int ((Int × Int × Int) × Int) -> Except Int (V × List (Option MO))
 | .ok ((h, m, s), a) => .ok (.tup [.int h, .int m, .int s], H.set i (some (rdO ts a n)))
 | .error e => .error e
theorem r_clock (B : Base G) (o : X.Ok G) (hf : X.md = .fr) (hh0 : X.A.handled = none) (hr : 6 <= X.room) {i : Nat} {ts : List Tk} {a n : Int} (hi0 : σ.heap[i]? = some (some (rdO ts a n))) (R : Rdr ts a) (ha : a <= 10000) : RC G X (.glob "read_clock") [.loc i] σ (rcC ts n i σ.heap (aW ts a n)) := by
 have r2 := R.a0
 have hil := il hi0
 refine rdef ["reader"] ["hour", "minute", "second"] [("WordFault", .glob "WordFault")] o hf (Om.lo hr) B.f_read_clock (by walk_at "dk") (.cons B.word.gls .nil) fun X' o' hmd hh hr' hsc hcl => ?_
 dsimp only [mkLoc, List.map]
 have hh' : X'.A.handled = none := hh.trans hh0
 have g : ∀ b : Int, (σ.heap.set i (some (rdO ts b n)))[i]? = some (some (rdO ts b n)) := fun b => gb hil
 apply bb o' hmd (by rfl)
 refine iE (i := i) (ts := ts) (a := a) (n := n) (lo := 2) (hi := 2) B o' hmd hh' (Om.rm hr hr') (by rfl) ⟨_, fun _ => by walk_at "u"⟩ (by walk_at "pe") hi0 (by walk_at "pe") R (by decide) (fun _ => aj) (fun h _ hn1 => ?_) fun e hn1 => ?_
 rotate_left
 ·unfold aW; rw [hn1]; rfl
 refine ⟨_, by walk_at "h", ?_⟩
 dsimp only
 with_reducible apply gn
 refine tx_not (tx_skip (i := i) (ts := ts) (a := a + 1) (n := n) (c := [58]) B o' hmd hh' (Om.rm hr hr') (by rfl) ⟨_, fun _ => by walk_at "u"⟩ (by walk_at "pe") (g _) (by walk_at "pe") (R.add (by decide) ((Om.q 0 1 .f38) _ ha r2)) ⟨fun hc => ?_, fun hc => ?_⟩)
 ·have hc : isSg ts (a + 1) [58] = false := by simpa using hc
  dsimp only
  rw [if_neg (by rw [hc]; decide)]
  refine bl (ds := [.str (S "a colon is missing"), .int (al ts (a + 1) n)]) B.word o' hmd hh' (Om.rm hr hr') (by rfl) (by walk_at "h") (ah rfl b4 (ah rfl ?_ pa_nil)) ⟨_, .inl rfl⟩ ?_
  ·with_reducible apply aI (by assumption) (by walk_at "u") ⟨_, fun _ => by walk_at "u"⟩
   ·walk_at "pe"
   ·exact cP o' B.Reader B.m_place (g _) (by walk_at "u")
   ·rfl
   ·with_reducible exact pa_nil
   ·exact p_place B o' hh' (Om.rm hr hr') (g _) (R.add (by decide) ((Om.q 0 1 .f38) _ ha r2))
  ·unfold aW; rw [hn1]; dsimp only; rw [if_pos hc]; rfl
 ·have hc : isSg ts (a + 1) [58] = true := by simpa using hc
  dsimp only
  rw [if_pos hc, dX]
  with_reducible apply aa
  apply bb o' hmd (by rfl)
  refine iE (i := i) (ts := ts) (a := a + 1 + 1) (n := n) (lo := 2) (hi := 2) B o' hmd hh' (by exact Om.rm hr hr') (by rfl) ⟨_, fun _ => by walk_at "u"⟩ (by walk_at "pe") (g _) (by walk_at "pe") ((R.add (by decide) (by exact (Om.q 0 1 .f38) _ ha r2)).add (by decide) (by exact (Om.q 0 1 (.i (.L .x0 (.k 10000)) (.i (.L .k0 .x0) (.L (.a (.a .x0 .k1) .k1) (.k 20000))))) _ ha r2)) (by decide) (fun _ => aj) (fun m m' hn2 => ?_) fun e hn2 => ?_
  rotate_left
  ·rw [Int.add_assoc] at hn2
   unfold aW; rw [hn1]; dsimp only; rw [if_neg (by rw [hc]; decide), show a + 2 = a + (1 + 1) from rfl, hn2]; rfl
  have hn2 : numR ts (a + 2) n 2 2 = .ok (m, m') := by rw [show a + 2 = a + 1 + 1 by exact (Om.q 0 1 (.E (.a .x0 (.k 2)) (.a (.a .x0 .k1) .k1))) _]; exact hn2
  refine ⟨_, by walk_at "h", ?_⟩
  dsimp only
  rw [dX, show a + 1 + 1 + 1 = a + 3 by exact (Om.q 0 1 (.E (.a (.a (.a .x0 .k1) .k1) .k1) (.a .x0 (.k 3)))) _]
  apply bb o' hmd (by rfl)
  with_reducible apply gE
  refine tx_skip (i := i) (ts := ts) (a := a + 3) (n := n) (c := [58]) B o' hmd hh' (Om.rm hr hr') (by rfl) ⟨_, fun _ => by walk_at "u"⟩ (by walk_at "pe") (g _) (by walk_at "pe") (R.add (by decide) ((Om.q 0 1 .f80) _ ha r2)) ⟨fun hc3 => ?_, fun hc3 => ?_⟩
  ·dsimp only
   rw [if_pos hc3, dX]
   refine iE (i := i) (ts := ts) (a := a + 3 + 1) (n := n) (lo := 2) (hi := 2) B o' hmd hh' (by exact Om.rm hr hr') (by rfl) ⟨_, fun _ => by walk_at "u"⟩ (by walk_at "pe") (g _) (by walk_at "pe") ((R.add (by decide) (by exact (Om.q 0 1 .f80) _ ha r2)).add (by decide) (by exact (Om.q 0 1 (.i (.L .x0 (.k 10000)) (.i (.L .k0 .x0) (.L (.a (.a .x0 (.k 3)) .k1) (.k 20000))))) _ ha r2)) (by decide) (fun _ => aj) (fun s s' hn3 => ?_) fun e hn3 => ?_
   rotate_left
   ·have hn3 : numR ts (a + 4) n 2 2 = .error e := by rw [show a + 4 = a + 3 + 1 by exact (Om.q 0 1 (.E (.a .x0 (.k 4)) (.a (.a .x0 (.k 3)) .k1))) _]; exact hn3
    unfold aW; rw [hn1]; dsimp only; rw [if_neg (by rw [hc]; decide), hn2]; dsimp only; rw [if_pos hc3, hn3]; rfl
   have hn3 : numR ts (a + 4) n 2 2 = .ok (s, s') := by rw [show a + 4 = a + 3 + 1 by exact (Om.q 0 1 (.E (.a .x0 (.k 4)) (.a (.a .x0 (.k 3)) .k1))) _]; exact hn3
   refine ⟨_, by walk_at "h", ?_⟩
   dsimp only
   rw [dX, show a + 3 + 1 + 1 = a + 5 by exact (Om.q 0 1 (.E (.a (.a (.a .x0 (.k 3)) .k1) .k1) (.a .x0 (.k 5)))) _]
   with_reducible apply ac
   ·walk_at "pe"
   ·unfold aW; rw [hn1]; dsimp only; rw [if_neg (by rw [hc]; decide), hn2]; dsimp only; rw [if_pos hc3, hn3]
    refine ⟨_, _, _, σ.heap.length, rfl, rfl, rfl, Nat.le_refl _, ?_, rfl, ao hcl bt⟩
    exact List.take_of_length_le (by simp)
  ·dsimp only
   rw [if_neg (by rw [hc3]; decide)]
   with_reducible refine am aj ⟨_, by walk_at "h", ?_⟩
   dsimp only
   with_reducible apply ac
   ·walk_at "pe"
   ·unfold aW; rw [hn1]; dsimp only; rw [if_neg (by rw [hc]; decide), hn2]; dsimp only; rw [if_neg (by rw [hc3]; decide)]
    refine ⟨_, _, _, σ.heap.length, rfl, rfl, rfl, Nat.le_refl _, ?_, rfl, ao hcl bt⟩
    exact List.take_of_length_le (by simp)
end
local macro_rules | `(tactic| walk_at "own") => `(tactic| (first | apply jq | apply iZ | apply kg) <;> walk_at "sd")
theorem tokenR_w {b : List UInt8} {p q : Int} {u : Tk} (hi : bj b p = .ok (u, q)) (hk : u.1 = S "atom") : u.2.1.length <= b.length := by
 have no : ∀ {k : List Nat} {r : Except Int (List UInt8 × Int)}, mkTk k p r = .ok (u, q) -> u.1 = k := fun h => by
  obtain ⟨_, _, e⟩ := fU h
  rw [e]
 have ne : S "quoted" ≠ S "atom" /\ S "literal" ≠ S "atom" /\ S "comment" ≠ S "atom" /\ S "sign" ≠ S "atom" := by decide +kernel
 refine iteE hi (fun _ h => absurd ((no h).symm.trans hk) ne.1) fun _ h => iteE h (fun _ h => absurd ((no h).symm.trans hk) ne.2.1) fun _ h => iteE h (fun _ h => absurd ((no h).symm.trans hk) ne.2.2.1) fun _ h => iteE h (fun _ h => ?_) fun _ h => iteE h (fun _ => erE) fun _ h => ?_
 ·obtain ⟨rfl, rfl⟩ := Prod.mk.inj (Except.ok.inj h); exact absurd hk ne.2.2.2
 ·obtain ⟨rfl, rfl⟩ := Prod.mk.inj (Except.ok.inj h)
  show (slB _ _ _).length <= _
  unfold slB
  rw [List.length_take, List.length_drop]
  exact Nat.le_trans (Nat.min_le_right _ _) (Nat.sub_le _ _)
theorem tokF_w {b : List UInt8} : ∀ {n : Nat} {p : Int} {ts : List Tk}, 0 <= p -> p <= b.length -> tokF b n p = .ok ts -> ∀ t ∈ ts, t.1 = S "atom" -> t.2.1.length <= b.length := by
 intro n
 induction n with
 | zero => intro p ts _ _ h; obtain rfl := Except.ok.inj h; intro t ht; cases ht
 | succ n ih =>
  intro p ts h0 hp h
  refine iteE h (fun hl h => ?_) fun _ h => ?_
  rotate_left
  ·obtain rfl := Except.ok.inj h; intro t ht; cases ht
  generalize hi : bj b p = r at h
  cases r with
  | error => exact erE h
  | ok y =>
   obtain ⟨u, q⟩ := y
   obtain ⟨j1, j2⟩ := fq h0 hl hi
   have j0 := Int.le_trans (Om.za h0) j1
   obtain ⟨w1, w2⟩ := dO (b := b) (p := q) j0 j2
   dsimp only at h
   generalize hf : tokF b n (whAt b q) = r at h
   cases r with
   | error => exact erE h
   | ok z =>
    obtain rfl := Except.ok.inj h
    intro t ht hk
    rcases List.mem_cons.mp ht with rfl | ht
    ·exact tokenR_w hi hk
    ·exact ih (Int.le_trans j0 w1) w2 hf t ht hk
theorem jJ {b : List UInt8} {ts : List Tk} (hz : b.length <= 10000) (h : bh b = .ok ts) : Rdr (bare ts) 0 := by
 have hl := dQ h
 have hb : (bare ts).length <= ts.length := by unfold bare; exact List.length_filter_le _ _
 obtain ⟨w1, w2⟩ := dO (b := b) (p := 0) (by decide) ((Om.q 1 0 (.i (.l .x0 (.k 10000)) (.L .k0 (.c .x0)))) _ hz)
 refine ⟨by exact (Om.q 3 0 (.i (.l .x2 (.k 10000)) (.i (.l .x1 .x2) (.i (.l .x0 .x1) (.l .x0 (.k 10000)))))) _ _ _ hz hl hb, fun t ht hk => ?_, by decide, by decide⟩
 have := tokF_w w1 w2 h t (List.mem_filter.mp ht).1 hk
 exact (Om.q 2 0 (.i (.l .x1 (.k 10000)) (.i (.l .x0 .x1) (.l .x0 (.k 10000))))) _ _ hz this
noncomputable def dtZ (ts : List Tk) (n a0 day num fg h m s a4 : Int) : Except Int Mom :=
 if cn h m s = false then .error (al ts (a0 + 3) n) else
 match bv (ad ts a4) with
 | none => .error (al ts a4 n)
 | some z => if a4 + 1 < ts.length then .error (al ts (a4 + 1) n) else .ok ⟨aD num fg, aC (ad ts (a0 + 1)), day, h, m, s, z⟩
noncomputable def dtC (ts : List Tk) (n a0 day num fg : Int) : Except Int Mom :=
 if ew (aD num fg) (aC (ad ts (a0 + 1))) day = false then .error (al ts a0 n) else
 match aW ts (a0 + 3) n with
 | .error e => .error e
 | .ok ((h, m, s), a4) => dtZ ts n a0 day num fg h m s a4
noncomputable def dtB (ts : List Tk) (n a0 day : Int) : Except Int Mom :=
 if aC (ad ts (a0 + 1)) = 0 then .error (al ts (a0 + 1) n) else
 match numR ts (a0 + 2) n 2 4 with
 | .error e => .error e
 | .ok (num, fg) => dtC ts n a0 day num fg
noncomputable def dz (ts : List Tk) (n a0 : Int) : Except Int Mom :=
 match numR ts a0 n 1 2 with
 | .error e => .error e
 | .ok (day, _) => dtB ts n a0 day
theorem lu (ts : List Tk) (n a0 : Int) : dz ts n a0 = match numR ts a0 n 1 2 with
 | .error e => .error e
 | .ok (day, _) =>
  if aC (ad ts (a0 + 1)) = 0 then .error (al ts (a0 + 1) n) else
  match numR ts (a0 + 2) n 2 4 with
  | .error e => .error e
  | .ok (num, fg) =>
   if ew (aD num fg) (aC (ad ts (a0 + 1))) day = false then .error (al ts a0 n) else
   match aW ts (a0 + 3) n with
   | .error e => .error e
   | .ok ((h, m, s), a4) =>
    if cn h m s = false then .error (al ts (a0 + 3) n) else
    match bv (ad ts a4) with
    | none => .error (al ts a4 n)
    | some z => if a4 + 1 < ts.length then .error (al ts (a4 + 1) n) else .ok ⟨aD num fg, aC (ad ts (a0 + 1)), day, h, m, s, z⟩ := rfl
noncomputable def begA (ts : List Tk) : Int := if low7.contains (lowT (ad ts 0)) = true then (if isSg ts 1 [44] = true then 2 else 1) else 0
noncomputable def iM (ts : List Tk) (n : Int) : Except Int Mom := dz ts n (begA ts)
noncomputable def bD (b : List UInt8) : Except Int Mom := match bh b with
 | .error e => .error e
 | .ok ts => iM (bare ts) b.length
theorem clockR_at {ts : List Tk} {a n : Int} {x : Int × Int × Int} {a4 : Int} (h : aW ts a n = .ok (x, a4)) : a4 = a + 3 \/ a4 = a + 5 := by
 unfold aW at h
 generalize numR ts a n 2 2 = r at h
 cases r with
 | error => exact erE h
 | ok => refine iteE h (fun _ => erE) fun _ h => ?_; (
  generalize numR ts (a + 2) n 2 2 = r at h; cases r with
  | error => exact erE h
  | ok => refine iteE h (fun _ h => ?_) fun _ h => ?_; (
   generalize numR ts (a + 4) n 2 2 = r at h; cases r with
   | error => exact erE h
   | ok => obtain ⟨rfl, rfl⟩ := Prod.mk.inj (Except.ok.inj h); exact .inr rfl); (obtain ⟨rfl, rfl⟩ := Prod.mk.inj (Except.ok.inj h); exact .inl rfl))
section
variable {G : Gx} {X : Fx} {σ τ : St} {Ψ : Ps} {Φ : V -> St -> Prop} {ΦF : Fl -> St -> Prop}
noncomputable def rcZ (ts : List Tk) (a n : Int) (i : Nat) (H : List (Option MO)) : Option Int -> Except Int (V × List (Option MO))
 | some z => .ok (.int z, H.set i (some (rdO ts (a + 1) n)))
 | none => .error (al ts a n)
theorem fM (B : Base G) (o : X.Ok G) (hf : X.md = .fr) (hh0 : X.A.handled = none) (hr : 5 <= X.room) {oe : Expr} {es : List Expr} {tss : List Stmt} {apos pos pos' : Pos} {i : Nat} {ts : List Tk} {a n : Int} {c : Bool} {w : V} (hp : ag es = true)
  (he : ∃ pl : Env -> Sem Bool, ∀ env, eval (.Call (.Attribute oe "need" apos) es [] pos) env = (do
   let ov <- eval oe env
   standAt apos.atName
   let (f, first) <- holding [ov] (getMethod ov "need" (pl env))
   callWith pos f first (backTo pos (starEach es env)) (backToKw pos (keywordEach [] env))))
  (h1 : PE G X oe σ (.loc i)) (hi0 : σ.heap[i]? = some (some (rdO ts a n))) (h3 : PA G X es σ [.bool c, w]) (R : Rdr ts a)
  (hok : c = true -> SSX G X tss ΦF Ψ { σ with heap := σ.heap.set i (some (rdO ts (a + 1) n)) }) (herr : c = false -> Ψ (al ts a n) σ.loc) : SSX G X (.Expr (.Call (.Attribute oe "need" apos) es [] pos) pos' :: tss) ΦF Ψ σ := by
 refine bI o hf (by rfl) (iD o hp he h1 (cP o B.Reader B.m_need hi0 (by walk_at "u")) rfl h3 (r_need B o hf hh0 hr hi0 R) (fun v H hv => ?_) fun e hv => ?_)
 ·cases c with
  | true => obtain ⟨rfl, rfl⟩ := Prod.mk.inj (Except.ok.inj hv); exact hok rfl
  | false => injection hv
 ·cases c with
  | true => injection hv
  | false => cases hv; exact herr rfl
theorem r_zone (B : Base G) (o : X.Ok G) (hf : X.md = .fr) (hh0 : X.A.handled = none) (hr : 6 <= X.room) {i : Nat} {ts : List Tk} {a n : Int} (hi0 : σ.heap[i]? = some (some (rdO ts a n))) (R : Rdr ts a) : RC G X (.glob "read_zone") [.loc i] σ (rcZ ts a n i σ.heap (bv (ad ts a))) := by
 obtain ⟨t1, t2⟩ := bF R
 refine rdef ["reader"] ["text", "zone"] [("zone_in", .glob "zone_in"), ("named_zone", .glob "named_zone")] o hf (Om.lo hr) B.f_read_zone (by walk_at "dk") (.cons (av B.f_zone_in) (.cons (av B.f_named_zone) .nil)) fun X' o' hmd hh hr' hsc hcl => ?_
 dsimp only [mkLoc, List.map]
 have hh' : X'.A.handled = none := hh.trans hh0
 apply aw o' hmd (by rfl)
 ·walk_at "pe"
 ·walk_at "h"
 apply aw o' hmd (by rfl)
 ·walk_at "pe"
 ·walk_at "h"
 unfold bv
 cases hz : b7 (ad ts a) with
 | some z =>
  dsimp only [optV]
  with_reducible apply az
  ·walk_at "pe"
  ·intro hc; injection hc
  ·intro hc
   with_reducible apply aa
   refine fM (i := i) (ts := ts) (a := a) (n := n) (c := !isNone (.int z)) B o' hmd hh' (Om.rm hr hr') (by rfl) ⟨_, fun _ => by walk_at "u"⟩ (by walk_at "pe") hi0 (w := .str (S "a zone is missing")) (ah rfl (by walk_at "pe") (ah rfl b4 pa_nil)) R (fun _ => ?_) fun q => by simp [isNone] at q
   with_reducible apply ac
   ·walk_at "pe"
   ·refine ⟨_, _, _, σ.heap.length, rfl, rfl, rfl, Nat.le_refl _, ?_, rfl, ao hcl bt⟩
    exact List.take_of_length_le (by simp)
 | none =>
  dsimp only [optV]
  with_reducible apply az
  ·walk_at "pe"
  ·intro hc
   apply aw o' hmd (by rfl)
   ·walk_at "pe"
   ·walk_at "h"
   with_reducible apply aa
   cases hz2 : bz (ad ts a) with
   | some z =>
    dsimp only [optV]
    refine fM (i := i) (ts := ts) (a := a) (n := n) (c := !isNone (.int z)) B o' hmd hh' (Om.rm hr hr') (by rfl) ⟨_, fun _ => by walk_at "u"⟩ (by walk_at "pe") hi0 (w := .str (S "a zone is missing")) (ah rfl (by walk_at "pe") (ah rfl b4 pa_nil)) R (fun _ => ?_) fun q => by simp [isNone] at q
    with_reducible apply ac
    ·walk_at "pe"
    ·refine ⟨_, _, _, σ.heap.length, rfl, rfl, rfl, Nat.le_refl _, ?_, rfl, ao hcl bt⟩
     exact List.take_of_length_le (by simp)
   | none =>
    dsimp only [optV]
    refine fM (i := i) (ts := ts) (a := a) (n := n) (c := !isNone .none) B o' hmd hh' (Om.rm hr hr') (by rfl) ⟨_, fun _ => by walk_at "u"⟩ (by walk_at "pe") hi0 (w := .str (S "a zone is missing")) (ah rfl (by walk_at "pe") (ah rfl b4 pa_nil)) R (fun q => by simp [isNone] at q) fun _ => ?_
    rfl
  ·intro hc; injection hc
noncomputable def rcM (H : List (Option MO)) : Except Int Mom -> Except Int (V × List (Option MO))
 | .ok t => .ok (momV t, H)
 | .error e => .error e
theorem ax {x : Str} {xp pos : Pos} {e : Expr} {ts : List Stmt} {d : V} {l l' : List (Str × Option V)} {g : List (Str × V)} {H : List (Option MO)} (ok : X.Ok G) (hf : X.md = .fr) (hn : notComp e = true) (p : PE G X e ⟨l, g, H⟩ d) (hp : Put x d l l') (h : SSX G X ts ΦF Ψ ⟨l', g, H⟩) : SSX G X (.Assign [.Name x xp] e pos :: ts) ΦF Ψ ⟨l, g, H⟩ := aw ok hf hn p hp h
theorem g8 {ss : List Stmt} {l : List (Str × Option V)} {g : List (Str × V)} {H H' : List (Option MO)} (e : H = H') (h : SSX G X ss ΦF Ψ ⟨l, g, H'⟩) : SSX G X ss ΦF Ψ ⟨l, g, H⟩ := e ▸ h
theorem setlE {H : List (Option MO)} {x : Option MO} {ts : List Tk} {n a a' : Int} (h : a = a') : (H ++ [x]).set H.length (some (rdO ts a n)) = H ++ [some (rdO ts a' n)] := h ▸ aF
theorem isD {c : Bool} (h : (!c) = true) : c = false := by cases c; rfl; injection h
theorem isT {c : Bool} (h : (!c) = false) : ¬ c = false := by cases c; injection h; exact Bool.noConfusion
theorem r_read (B : Base G) (o : X.Ok G) (hf : X.md = .fr) (hh0 : X.A.handled = none) (hr : 10 <= X.room) {b : List UInt8} (hz : b.length <= 10000) : RC G X (.glob "read_date") [.bytes b] σ (rcM σ.heap (bD b)) := by
 refine rdef ["octets"] ["reader", "begun", "day", "month", "number", "figures", "year", "hour", "minute", "second", "zone"] [("DateReader", .glob "DateReader"), ("is_day_name", .glob "is_day_name"), ("month_number", .glob "month_number"), ("full_year", .glob "full_year"), ("is_day", .glob "is_day"), ("WordFault", .glob "WordFault"), ("read_clock", .glob "read_clock"), ("is_time", .glob "is_time"), ("read_zone", .glob "read_zone"), ("len", .val (.builtin "len")), ("Moment", .glob "Moment")] o hf (Om.lo hr) B.f_read_date (by walk_at "dk")
  (.cons (gl_cls B.Reader) (.cons (av B.f_is_day_name) (.cons (av B.f_month_number) (.cons (av B.f_full_year) (.cons (av B.f_is_day) (.cons B.word.gls (.cons (av B.f_read_clock) (.cons (av B.f_is_time) (.cons (av B.f_read_zone) (.cons B.len (.cons (gl_cls B.Moment) .nil))))))))))) fun X' o' hmd hh hr' hsc hcl => ?_
 dsimp only [mkLoc, List.map]
 have hh' : X'.A.handled = none := hh.trans hh0
 cases hi : bh b with
 | error a =>
  exact bb o' hmd (by rfl) (bA o' (by rfl) (by walk_at "pe") rfl (by walk_at "pe") ((jj (b := b) B o' hmd hh' (Om.rm hr hr') hz).err (congrArg _ hi) (by unfold bD; rw [hi]; rfl)))
 | ok ts0 =>
 apply bb o' hmd (by rfl)
 refine bA o' (by rfl) (by walk_at "pe") rfl (by walk_at "pe") ((jj (b := b) B o' hmd hh' (Om.rm hr hr') hz).ok (congrArg _ hi) ?_)
 have R0 := jJ hz hi
 obtain ⟨ts, hts⟩ : ∃ x, bare ts0 = x := ⟨_, rfl⟩
 obtain ⟨n, hn⟩ : ∃ x : Int, (b.length : Int) = x := ⟨_, rfl⟩
 obtain ⟨r, hr0⟩ : ∃ x, bD b = x := ⟨_, rfl⟩
 have eR : iM ts n = r := by rw [<- hr0, <- hts, <- hn]; unfold bD; rw [hi]
 rw [hts] at R0
 rw [hr0, hts, hn]
 have R1 : Rdr ts (0 + 1) := R0.add (by decide) (by decide)
 obtain ⟨t1, t2⟩ := bF R0
 refine ⟨_, by walk_at "h", ?_⟩
 dsimp only
 have g : ∀ c : Int, (σ.heap ++ [some (rdO ts c n)])[σ.heap.length]? = some (some (rdO ts c n)) := fun c => aM
 obtain ⟨a0, ha0⟩ : ∃ x, begA ts = x := ⟨_, rfl⟩
 have eR : dz ts n a0 = r := by rw [<- ha0]; exact eR
 have ha : 0 <= a0 /\ a0 <= 2 := by rw [<- ha0]; unfold begA; split; (split <;> decide); decide
 obtain ⟨ha1, ha2⟩ := ha
 with_reducible refine gq ⟨[("octets", some (.bytes b)), ("reader", some (.loc σ.heap.length)), ("begun", none), ("day", none), ("month", none), ("number", none), ("figures", none), ("year", none), ("hour", none), ("minute", none), ("second", none), ("zone", none)], [("DateReader", .glob "DateReader"), ("is_day_name", .glob "is_day_name"), ("month_number", .glob "month_number"), ("full_year", .glob "full_year"), ("is_day", .glob "is_day"), ("WordFault", .glob "WordFault"), ("read_clock", .glob "read_clock"), ("is_time", .glob "is_time"), ("read_zone", .glob "read_zone"), ("len", .val (.builtin "len")), ("Moment", .glob "Moment")], σ.heap ++ [some (rdO ts a0 n)]⟩ (c := low7.contains (lowT (ad ts 0))) ?_ (fun hc => ?_) (fun hc => ?_) ?_
 ·have g0 := g 0
  walk_at "pe"
 ·have g0 := g 0
  refine bZ (i := σ.heap.length) (fs := [("tokens", .lst (ts.map tkV)), ("at", .int 0), ("length", .int n)]) (d := .int (0 + 1)) o' (by rfl) B.Reader (by decide) (by walk_at "pe") (by walk_at "pe") g0 (by simp) ?_
  try dsimp only
  with_reducible refine g8 aF ?_
  refine bI o' hmd (by rfl) (iD o' (by rfl) ⟨_, fun _ => by walk_at "u"⟩ (by walk_at "pe") (cP o' B.Reader B.m_skip (g (0 + 1)) (by walk_at "u")) rfl (by walk_at "pe") (r_skip (c := [44]) B o' hmd hh' (Om.rm hr hr') (g (0 + 1)) R1) (fun v H hv => ?_) fun e hv => by injection hv)
  obtain ⟨rfl, rfl⟩ := Prod.mk.inj (Except.ok.inj hv)
  with_reducible apply aa
  refine ⟨rfl, ?_⟩
  dsimp only
  rw [aF, <- ha0]
  unfold begA
  rw [if_pos hc]
  show St.mk _ _ (if isSg ts 1 [44] = true then _ else _) = _
  cases hs : isSg ts 1 [44] <;> rfl
 ·with_reducible apply aa
  refine ⟨rfl, ?_⟩
  rw [<- ha0]
  unfold begA
  rw [if_neg (by rw [hc]; decide)]
 have Ra : ∀ k : Int, 0 <= k -> k <= 100 -> Rdr ts (a0 + k) := fun k h0 h1 => by
  have := R0.add (k := a0 + k) ((Om.q 0 2 (.i (.L .k0 .x1) (.i (.L .x1 (.k 2)) (.i (.L .k0 .x0) (.i (.L .x0 (.k 100)) (.L .k0 (.a .x1 .x0))))))) _ _ ha1 ha2 h0 h1) ((Om.q 0 2 (.i (.L .k0 .x1) (.i (.L .x1 (.k 2)) (.i (.L .k0 .x0) (.i (.L .x0 (.k 100)) (.L (.a .k0 (.a .x1 .x0)) (.k 20000))))))) _ _ ha1 ha2 h0 h1)
  rwa [Int.zero_add] at this
 have Ra0 : Rdr ts a0 := by have := Ra 0 (by decide) (by decide); rwa [Int.add_zero] at this
 have Ra1 := Ra 1 (by decide) (by decide)
 obtain ⟨t3, t4⟩ := bF Ra1
 obtain ⟨M, hM⟩ : ∃ x, aC (ad ts (a0 + 1)) = x := ⟨_, rfl⟩
 have g0 := g a0
 apply aw o' hmd (by rfl)
 ·walk_at "pe"
 ·walk_at "h"
 apply bb o' hmd (by rfl)
 refine iE (i := σ.heap.length) (ts := ts) (a := a0) (n := n) (lo := 1) (hi := 2) B o' hmd hh' (Om.rm hr hr') (by rfl) ⟨_, fun _ => by walk_at "u"⟩ (by walk_at "pe") g0 (by walk_at "pe") Ra0 (by decide) (fun _ => aj) (fun day d' hn1 => ?_) fun e hn1 => ?_
 rotate_left
 ·rw [<- eR]; unfold dz; rw [hn1]; rfl
 have eR : dtB ts n a0 day = r := by rw [<- eR]; unfold dz; rw [hn1]
 refine ⟨_, by walk_at "h", ?_⟩
 dsimp only
 with_reducible refine g8 aF ?_
 have g1 := g (a0 + 1)
 refine ax (d := .int (M : Int)) o' hmd (by rfl) (by rw [<- hM]; walk_at "pe") (by walk_at "h") ?_
 refine fM (i := σ.heap.length) (ts := ts) (a := a0 + 1) (n := n) (c := decide (0 < (M : Int))) B o' hmd hh' (Om.rm hr hr') (by rfl) ⟨_, fun _ => by walk_at "u"⟩ (by walk_at "pe") g1 (w := .str (S "a month is missing")) (ah rfl (by walk_at "pe") (ah rfl b4 pa_nil)) Ra1 (fun hm => ?_) fun hm => ?_
 rotate_left
 ·rw [<- eR]; unfold dtB; rw [if_pos (hM.trans (Int.ofNat_inj.mp (Int.le_antisymm (Int.not_lt.mp (of_decide_eq_false hm)) (Int.natCast_nonneg _))))]; rfl
 have eR := eR
 unfold dtB at eR
 rw [if_neg (hM ▸ fun q => by rw [q] at hm; exact absurd hm (by decide))] at eR
 dsimp only
 refine g8 (setlE (a' := a0 + 2) (Int.add_assoc a0 1 1)) ?_
 have g2 := g (a0 + 2)
 cases hn2 : numR ts (a0 + 2) n 2 4 with
 | error e =>
  exact br o' hmd hh' (by walk_at "u") (fun _ => by walk_at "u") (fun _ => by walk_at "u") (ex_rcmk o' (by rfl) ⟨_, fun _ => by walk_at "u"⟩ (by walk_at "pe") (cP o' B.Reader B.m_number g2 (by walk_at "u")) rfl (by walk_at "pe") ((gu (lo := 2) (hi := 4) B o' hmd hh' (Om.rm hr hr') g2 (Ra 2 (by decide) (by decide)) (by decide)).err (congrArg _ hn2) (by rw [<- eR, hn2]; rfl)))
 | ok x =>
 obtain ⟨num, fg⟩ := x
 rw [hn2] at eR
 refine br o' hmd hh' (by walk_at "u") (fun _ => by walk_at "u") (fun _ => by walk_at "u") (ex_rcmk o' (by rfl) ⟨_, fun _ => by walk_at "u"⟩ (by walk_at "pe") (cP o' B.Reader B.m_number g2 (by walk_at "u")) rfl (by walk_at "pe") ((gu (lo := 2) (hi := 4) B o' hmd hh' (Om.rm hr hr') g2 (Ra 2 (by decide) (by decide)) (by decide)).ok (congrArg _ hn2) ?_))
 have eR : dtC ts n a0 day num fg = r := eR
 unfold dtC at eR
 rw [hM] at eR
 refine ⟨_, _, rfl, rfl, by walk_at "h", ?_⟩
 dsimp only
 refine g8 (setlE (a' := a0 + 3) (Int.add_assoc a0 2 1)) ?_
 have g3 := g (a0 + 3)
 have Ra3 := Ra 3 (by decide) (by decide)
 apply aw o' hmd (by rfl)
 ·walk_at "pe"
 ·walk_at "h"
 with_reducible apply az
 ·walk_at "pe"
 ·intro hc
  refine bl B.word o' hmd hh' (Om.rm hr hr') (by rfl) (by walk_at "h") (by walk_at "pe") ⟨_, .inl rfl⟩ ?_
  rw [<- eR, if_pos (isD hc)]; rfl
 intro hc
 rw [if_neg (isT hc)] at eR
 with_reducible apply aa
 apply aw o' hmd (by rfl)
 ·walk_at "pe"
 ·walk_at "h"
 cases hn3 : aW ts (a0 + 3) n with
 | error e =>
  exact br o' hmd hh' (by walk_at "u") (fun _ => by walk_at "u") (fun _ => by walk_at "u") (bA o' (by rfl) (by walk_at "pe") rfl (by walk_at "pe") ((r_clock B o' hmd hh' (Om.rm hr hr') g3 Ra3 ((Om.q 0 1 .f81) _ ha1 ha2)).err (congrArg _ hn3) (by rw [<- eR, hn3]; rfl)))
 | ok x =>
 obtain ⟨⟨h, m, s⟩, a4⟩ := x
 rw [hn3] at eR
 refine br o' hmd hh' (by walk_at "u") (fun _ => by walk_at "u") (fun _ => by walk_at "u") (bA o' (by rfl) (by walk_at "pe") rfl (by walk_at "pe") ((r_clock B o' hmd hh' (Om.rm hr hr') g3 Ra3 ((Om.q 0 1 .f81) _ ha1 ha2)).ok (congrArg _ hn3) ?_))
 have eR : dtZ ts n a0 day num fg h m s a4 = r := eR
 unfold dtZ at eR
 rw [hM] at eR
 have h4 := clockR_at hn3
 refine ⟨_, _, rfl, rfl, by walk_at "h", ?_⟩
 dsimp only
 with_reducible refine g8 aF ?_
 have g4 := g a4
 have Ra4 : Rdr ts a4 := by
  have := Ra (a4 - a0) ((Om.q 0 2 (.i (.o (.E .x1 (.a (.a .x0 (.k 3)) (.k 3))) (.E .x1 (.a (.a .x0 (.k 3)) (.k 5)))) (.L .k0 (.s .x1 .x0)))) _ _ h4) ((Om.q 0 2 (.i (.o (.E .x1 (.a (.a .x0 (.k 3)) (.k 3))) (.E .x1 (.a (.a .x0 (.k 3)) (.k 5)))) (.L (.s .x1 .x0) (.k 100)))) _ _ h4)
  rwa [show a0 + (a4 - a0) = a4 by exact (Om.q 0 2 (.E (.a .x1 (.s .x0 .x1)) .x0)) _ _] at this
 have Ra5 : Rdr ts (a4 + 1) := by
  have := Ra (a4 + 1 - a0) ((Om.q 0 2 (.i (.o (.E .x1 (.a (.a .x0 (.k 3)) (.k 3))) (.E .x1 (.a (.a .x0 (.k 3)) (.k 5)))) (.L .k0 (.s (.a .x1 .k1) .x0)))) _ _ h4) ((Om.q 0 2 (.i (.o (.E .x1 (.a (.a .x0 (.k 3)) (.k 3))) (.E .x1 (.a (.a .x0 (.k 3)) (.k 5)))) (.L (.s (.a .x1 .k1) .x0) (.k 100)))) _ _ h4)
  rwa [show a0 + (a4 + 1 - a0) = a4 + 1 by exact (Om.q 0 2 (.E (.a .x1 (.s (.a .x0 .k1) .x1)) (.a .x0 .k1))) _ _] at this
 with_reducible apply az
 ·walk_at "pe"
 ·intro hc
  refine bl B.word o' hmd hh' ((Om.q 3 2 .f39) _ _ _ _ _ hr hr' h4 (Om.sbo _ _)) (by rfl) (by walk_at "h") (by walk_at "pe") ⟨_, .inl rfl⟩ ?_
  rw [<- eR, if_pos (isD hc)]; rfl
 intro hc
 rw [if_neg (isT hc)] at eR
 with_reducible apply aa
 cases hz4 : bv (ad ts a4) with
 | none =>
  exact bb o' hmd (by rfl) (bA o' (by rfl) (by walk_at "pe") rfl (by walk_at "pe") ((r_zone B o' hmd hh' ((Om.q 3 2 .f82) _ _ _ _ _ hr hr' h4 (Om.sbo _ _)) g4 Ra4).err (congrArg _ hz4) (by rw [<- eR, hz4]; rfl)))
 | some z =>
 rw [hz4] at eR
 apply bb o' hmd (by rfl)
 refine bA o' (by rfl) (by walk_at "pe") rfl (by walk_at "pe") ((r_zone B o' hmd hh' ((Om.q 3 2 .f82) _ _ _ _ _ hr hr' h4 (Om.sbo _ _)) g4 Ra4).ok (congrArg _ hz4) ?_)
 dsimp only at eR
 refine ⟨_, by walk_at "h", ?_⟩
 dsimp only
 with_reducible refine g8 aF ?_
 have g5 := g (a4 + 1)
 have r4 : (ts.map tkV).length <= 10000 := by rw [List.length_map]; exact R0.n
 with_reducible apply az
 ·walk_at "pe"
 ·intro hc5
  refine bl B.word o' hmd hh' ((Om.q 3 2 .f39) _ _ _ _ _ hr hr' h4 (Om.sbo _ _)) (by rfl) (by walk_at "h") (by walk_at "pe") ⟨_, .inl rfl⟩ ?_
  rw [<- eR, if_pos (by simpa using hc5)]; rfl
 intro hc5
 rw [if_neg (by simpa using hc5)] at eR
 with_reducible apply aa
 with_reducible apply dU
 refine iF (t := ⟨aD num fg, M, day, h, m, s, z⟩) B o' hmd hh' ((Om.q 3 2 .f39) _ _ _ _ _ hr hr' h4 (Om.sbo _ _)) (by rfl) (by walk_at "h") (by walk_at "pe") ?_
 refine bx (G := G) hcl ?_ (by rw [<- eR]; rfl) rfl
 simp
end
noncomputable abbrev dZ (cs : List Int) (g s p : Int) : MO := .list [.lst (cs.map .int), .int g, .int s, .int p]
theorem gg (n : Nat) : ∀ ts : List Int, V.closeds n (ts.map .int) = true
 | [] => rfl
 | t :: ts => by
  have := gg n ts
  exact this
theorem bJ {n : Nat} {cs : List Int} {g s p : Int} : (dZ cs g s p).closed n = true := by
 exact Bool.and_eq_true_iff.mpr ⟨gg n cs, rfl⟩
noncomputable def cK (H : List (Option MO)) (i : Nat) (n : Int) : Prop := ∃ cs g s p, H[i]? = some (some (dZ cs g s p)) /\ cs.length <= 40 /\ 0 <= p /\ p <= n
noncomputable def Pst (H H' : List (Option MO)) (i : Nat) (n : Int) : Prop := cK H' i n /\ H'.length = H.length /\ (∀ j, j ≠ i -> H'[j]? = H[j]?) /\ (af H.length H = true -> af H'.length H' = true)
theorem Pst.trans {H H' H'' : List (Option MO)} {i : Nat} {n m : Int} (a : Pst H H' i n) (b : Pst H' H'' i m) : Pst H H'' i m := ⟨b.1, b.2.1.trans a.2.1, fun j hj => (b.2.2.1 j hj).trans (a.2.2.1 j hj), fun c => b.2.2.2 (a.2.2.2 c)⟩
theorem cK.mono {H : List (Option MO)} {i : Nat} {n m : Int} (a : cK H i n) (h : n <= m) : cK H i m := by
 obtain ⟨cs, g, s, p, h1, h2, h3, h4⟩ := a
 exact ⟨cs, g, s, p, h1, h2, h3, by exact (Om.q 0 3 (.i (.L .x2 .x1) (.i (.L .x0 .x2) (.L .x0 .x1)))) _ _ _ h h4⟩
theorem Pst.mono {H H' : List (Option MO)} {i : Nat} {n m : Int} (a : Pst H H' i n) (h : n <= m) : Pst H H' i m := ⟨a.1.mono h, a.2⟩
theorem Pst.set {H : List (Option MO)} {i : Nat} {cs : List Int} {g s p n : Int} (hi : i < H.length) (h1 : cs.length <= 40) (h2 : 0 <= p) (h3 : p <= n) : Pst H (H.set i (some (dZ cs g s p))) i n :=
 ⟨⟨cs, g, s, p, gb hi, h1, h2, h3⟩, by simp, fun j hj => by rw [List.getElem?_set_ne (Ne.symm hj)], fun c => by rw [List.length_set]; exact ao c bJ⟩
section
variable {G : Gx} {X : Fx} {σ τ : St} {Ψ : Ps} {Φ : V -> St -> Prop} {ΦF : Fl -> St -> Prop}
theorem eK {oe ie e : Expr} {p2 pos : Pos} {ts : List Stmt} {i : Nat} {j : Int} {ds : List V} {d : V} (o : X.Ok G) (hn : notComp e = true)
  (h1 : PE G X e σ d) (h2 : PE G X oe σ (.loc i)) (h3 : PE G X ie σ (.int j)) (hi : σ.heap[i]? = some (some (.list ds))) (h0 : 0 <= j) (hj : j < ds.length) (hz : ds.length <= 1000000) (k : SSX G X ts ΦF Ψ { σ with heap := σ.heap.set i (some (.list (ds.set j.toNat d))) }) : SSX G X (.Assign [.Subscript oe ie p2] e pos :: ts) ΦF Ψ σ :=
 ay (kI o hn (am h1 (am h2 (am h3 ⟨i, j, ds, rfl, rfl, hi, h0, hj, hz, k⟩))))
theorem rp_draw (B : Base G) (o : X.Ok G) (hf : X.md = .fr) (hh0 : X.A.handled = none) (hr : 1 <= X.room) {i : Nat} {m n : Int} (hp : cK σ.heap i n) (hn : n <= 1000) (h1 : 0 < m) (h2 : m <= 1000000) : RP G X (.glob "_law_draw") [.loc i, .int m] σ (fun v H => ∃ d, v = .int d /\ 0 <= d /\ d < m /\ Pst σ.heap H i (n + 1)) := by
 obtain ⟨cs, g, s, p, hi, c1, c2, c3⟩ := hp
 have hil := il hi
 have hl : (cs.map V.int).length <= 40 := by simpa using c1
 refine rdefP ["pool", "most"] ["place", "digit"] [("len", .val (.builtin "len"))] o hf (Om.lo hr) B.f_law_draw (by walk_at "dk") (.cons B.len .nil) fun X' o' hmd hh hr' hsc hcl => ?_
 dsimp only [mkLoc, List.map]
 have hh' : X'.A.handled = none := hh.trans hh0
 refine aw (d := .int p) o' hmd (by rfl) ?_ (by walk_at "h") ?_
 ·with_reducible apply ar
  ·walk_at "pe"
  ·with_reducible exact aj
  ·exact cb hi (by decide) (by decide) rfl
 refine eK (i := i) (j := 3) (d := .int (p + 1)) o' (by rfl) (by walk_at "pe") (by walk_at "pe") aj hi (by decide) (by simp) (by simp) ?_
 dsimp only [List.set, Int.toNat]
 have g1 : (σ.heap.set i (some (dZ cs g s (p + 1))))[i]? = some (some (dZ cs g s (p + 1))) := gb hil
 have bad : m ≠ 0 := by exact (Om.q 0 1 (.i (.T .k0 .x0) (.i (.L .x0 (.k 1000000)) (.n (.E .x0 .k0))))) _ h1 h2
 with_reducible refine az (c := decide (0 < g)) ?_ ?_ ?_
 ·with_reducible apply bw (by walk_at "u")
  ·with_reducible apply ar
   ·walk_at "pe"
   ·with_reducible exact aj
   ·exact cb g1 (by decide) (by decide) rfl
  ·with_reducible exact aj
  ·with_reducible exact pq_gt
 ·intro hc
  refine aw (d := .int (g.fmod m)) o' hmd (by rfl) ?_ (by walk_at "h") ?_
  ·refine ai (a := .int g) (b := .int m) ?_ (by walk_at "pe") (ff bad ⟨rfl, rfl⟩)
   with_reducible apply ar
   ·walk_at "pe"
   ·with_reducible exact aj
   ·exact cb g1 (by decide) (by decide) rfl
  refine eK (i := i) (j := 1) (d := .int (g.fdiv m)) o' (by rfl) ?_ (by walk_at "pe") aj g1 (by decide) (by simp) (by simp) ?_
  ·refine ai (a := .int g) (b := .int m) ?_ (by walk_at "pe") (ic bad ((Om.q 0 1 (.i (.T .k0 .x0) (.i (.L .x0 (.k 1000000)) (.L (.g (.k 1000000000)) .x0)))) _ h1 h2) ((Om.q 0 1 (.i (.T .k0 .x0) (.i (.L .x0 (.k 1000000)) (.L .x0 (.k 1000000000))))) _ h1 h2))
   with_reducible apply ar
   ·walk_at "pe"
   ·with_reducible exact aj
   ·exact cb g1 (by decide) (by decide) rfl
  dsimp only [List.set, Int.toNat]
  with_reducible apply ac
  ·walk_at "pe"
  ·rw [dX]
   refine ⟨_, _, σ.heap.length, rfl, ⟨_, rfl, Int.fmod_nonneg_of_pos _ h1, Int.fmod_lt_of_pos _ h1, Pst.set (cs := cs) (g := g.fdiv m) (s := s) (p := p + 1) hil c1 ((Om.q 0 1 .f0) _ c2) ((Om.q 0 2 .f40) _ _ c3)⟩, Nat.le_refl _, ?_, rfl, ao hcl bJ⟩
   exact List.take_of_length_le (by simp)
 ·intro hc
  with_reducible apply aa
  refine eK (i := i) (j := 2) (d := .int ((s * 16807 + p * p + 5).fmod 2147483647)) o' (by rfl) ?_ (by walk_at "pe") aj g1 (by decide) (by simp) (by simp) ?_
  ·with_reducible refine ai (a := .int (s * 16807 + p * p + 5)) (b := .int 2147483647) ?_ aj (pb_mod (by decide))
   with_reducible refine ai (a := .int (s * 16807 + p * p)) (b := .int 5) ?_ aj fA
   with_reducible refine ai (a := .int (s * 16807)) (b := .int (p * p)) ?_ ?_ fA
   ·with_reducible refine ai (a := .int s) (b := .int 16807) ?_ aj (gB (by decide) (by decide))
    with_reducible apply ar
    ·walk_at "pe"
    ·with_reducible exact aj
    ·exact cb g1 (by decide) (by decide) rfl
   ·refine ai (a := .int p) (b := .int p) (by walk_at "pe") (by walk_at "pe") (gB ((Om.q 0 1 (.i (.L .k0 .x0) (.L (.g (.k 1000000000)) .x0))) _ c2) ((Om.q 0 2 (.i (.L .x1 (.k 1000)) (.i (.L .x0 .x1) (.L .x0 (.k 1000000000))))) _ _ hn c3))
  dsimp only [List.set, Int.toNat]
  obtain ⟨s', hs'⟩ : ∃ y, (s * 16807 + p * p + 5).fmod 2147483647 = y := ⟨_, rfl⟩
  rw [hs']
  rw [dX]
  have g2 : (σ.heap.set i (some (dZ cs g s' (p + 1))))[i]? = some (some (dZ cs g s' (p + 1))) := gb hil
  with_reducible refine az (c := decide (p < (((cs.map V.int).length : Nat) : Int))) ?_ ?_ ?_
  ·with_reducible apply bw (by walk_at "u")
   ·walk_at "pe"
   ·with_reducible apply bu (by assumption) (by walk_at "u")
    ·walk_at "pe"
    ·rfl
    ·apply ah (by rfl)
     ·with_reducible apply ar
      ·walk_at "pe"
      ·with_reducible exact aj
      ·exact cb g2 (by decide) (by decide) rfl
     ·with_reducible exact pa_nil
    ·with_reducible exact pc_lenl o' (Om.hi hl)
   ·with_reducible exact pq_lt
  ·intro hc2
   have hc2 : p < cs.length := by simpa using hc2
   refine ac (v := .int ((cs[p.toNat]'(by exact (Om.q 2 1 .f1) _ _ _ c2 hc2 (Om.tno _))).fmod m)) ?_ ?_
   ·refine ai (a := .int (cs[p.toNat]'(by exact (Om.q 2 1 .f1) _ _ _ c2 hc2 (Om.tno _)))) (b := .int m) ?_ (by walk_at "pe") (ff bad ⟨rfl, rfl⟩)
    with_reducible apply ar
    ·with_reducible apply ar
     ·walk_at "pe"
     ·with_reducible exact aj
     ·exact cb g2 (by decide) (by decide) rfl
    ·walk_at "pe"
    ·exact pg_l o' c2 (by exact (Om.q 0 2 (.i (.L .x1 (.k 1000)) (.i (.L .x0 .x1) (.T .x0 (.k 1000000))))) _ _ hn c3) (by rw [List.getElem?_map, List.getElem?_eq_getElem (by exact (Om.q 2 1 .f1) _ _ _ c2 hc2 (Om.tno _))]; rfl)
   ·refine ⟨_, _, σ.heap.length, rfl, ⟨_, rfl, Int.fmod_nonneg_of_pos _ h1, Int.fmod_lt_of_pos _ h1, Pst.set (cs := cs) (g := g) (s := s') (p := p + 1) hil c1 ((Om.q 0 1 .f0) _ c2) ((Om.q 0 2 .f40) _ _ c3)⟩, Nat.le_refl _, ?_, rfl, ao hcl bJ⟩
    exact List.take_of_length_le (by simp)
  ·intro hc2
   with_reducible apply aa
   with_reducible refine ac (v := .int ((s'.fdiv 5).fmod m)) ?_ ?_
   ·refine ai (a := .int (s'.fdiv 5)) (b := .int m) ?_ (by walk_at "pe") (ff bad ⟨rfl, rfl⟩)
    with_reducible refine ai (a := .int s') (b := .int 5) ?_ aj (ic (by decide) (by decide) (by decide))
    with_reducible apply ar
    ·walk_at "pe"
    ·with_reducible exact aj
    ·exact cb g2 (by decide) (by decide) rfl
   ·refine ⟨_, _, σ.heap.length, rfl, ⟨_, rfl, Int.fmod_nonneg_of_pos _ h1, Int.fmod_lt_of_pos _ h1, Pst.set (cs := cs) (g := g) (s := s') (p := p + 1) hil c1 ((Om.q 0 1 .f0) _ c2) ((Om.q 0 2 .f40) _ _ c3)⟩, Nat.le_refl _, ?_, rfl, ao hcl bJ⟩
    exact List.take_of_length_le (by simp)
theorem rp_box (B : Base G) (o : X.Ok G) (hf : X.md = .fr) (hh0 : X.A.handled = none) (hr : 1 <= X.room) {ns : List Int} (hz : ns.length <= 1000) : RP G X (.glob "_law_box") [.lst (ns.map .int)] σ (fun v H => v = .loc σ.heap.length /\ ∃ cs g s, H = σ.heap ++ [some (dZ cs g s 0)] /\ cs.length <= 40) := by
 have hz' : (ns.map V.int).length <= 1000 := by simpa using hz
 have hc40 : ((ns.map V.int).take (40 : Int).toNat).length <= 40 := by rw [List.length_take]; exact Nat.min_le_left _ _
 have e40 : ((ns.map V.int).take (40 : Int).toNat).map (fun d => V.int (iOf d)) = (ns.take 40).map V.int := by
  rw [show (40 : Int).toNat = 40 from rfl, <- List.map_take, List.map_map]
  rfl
 have c40 : (ns.take 40).length <= 40 := by rw [List.length_take]; exact Nat.min_le_left _ _
 refine rdefP ["script"] ["cells", "great", "state", "cell"] [("abs", .val (.builtin "abs"))] o hf (Om.lo hr) B.f_law_box (by walk_at "dk") (.cons B.abs .nil) fun X' o' hmd hh hr' hsc hcl => ?_
 dsimp only [mkLoc, List.map]
 have hh' : X'.A.handled = none := hh.trans hh0
 refine gr [("int", .val (.type "int"))] (fun d => .int (iOf d)) (d := .lst ((ns.map V.int).take (40 : Int).toNat)) o' hmd hh' (by rfl) (.cons B.int .nil) (fun _ _ => rfl) (fun _ => by walk_at "u") (by rw [dD hmd]; unfold Fx.fenv; rw [hsc]; with_unfolding_all rfl) ?_ rfl rfl (Om.hi hc40) ?_ (by walk_at "h") ?_
 ·with_reducible apply ia
  ·walk_at "pe"
  ·with_reducible exact aj
  ·exact ps_l0 o' (Om.hi hz') (by decide)
 ·intro d hd X2 o2 hm2 hh2 hr2
  rw [show (40 : Int).toNat = 40 from rfl, <- List.map_take] at hd
  obtain ⟨c, hc, rfl⟩ := List.mem_map.mp hd
  dsimp only [iOf]
  walk_at "pe"
 rw [e40]
 generalize hcs : ns.take 40 = cs at c40
 have l40 : (cs.map V.int).length <= 40 := by simpa using c40
 apply aw o' hmd (by rfl)
 ·walk_at "pe"
 ·walk_at "h"
 with_reducible refine ss_ifP (fun τ => ∃ g : Int, τ = ⟨[("script", some (.lst (ns.map .int))), ("cells", some (.lst (cs.map .int))), ("great", some (.int g)), ("state", none), ("cell", none)], [("abs", .val (.builtin "abs"))], σ.heap⟩) (c := !(cs.map V.int).isEmpty && decide ((10 : Int) ^ (15 : Int).toNat <= (if cs.headD 0 < 0 then -cs.headD 0 else cs.headD 0))) ?_ ?_ ?_ ?_
 ·with_reducible refine bB (dY (by walk_at "pe") fun hc => gv ?_)
  cases cs with
  | nil => simp at hc
  | cons c r =>
   with_reducible apply bw (by walk_at "u")
   ·with_reducible apply bu (by assumption) (by walk_at "u")
    ·walk_at "pe"
    ·rfl
    ·apply ah (by rfl)
     ·with_reducible apply ar
      ·walk_at "pe"
      ·with_reducible exact aj
      ·exact pg_l (d := .int c) o' (by decide) (by decide) rfl
     ·with_reducible exact pa_nil
    ·with_reducible exact pc_abs
   ·with_reducible apply ai aj aj (pb_pow (by decide) (by decide) (by decide))
   ·exact pq_ge
 ·intro hc
  cases cs with
  | nil => simp at hc
  | cons c r =>
   refine aw (d := .int (((if c < 0 then -c else c).fdiv 2).fmod ((10 : Int) ^ (200 : Int).toNat))) o' hmd (by rfl) ?_ (by walk_at "h") ?_
   ·refine ai (a := .int ((if c < 0 then -c else c).fdiv 2)) (b := .int ((10 : Int) ^ (200 : Int).toNat)) ?_ (ai aj aj (pb_pow (by decide) (by decide) (by decide))) (ff (by decide +kernel) ⟨rfl, rfl⟩)
    with_reducible refine ai (a := .int (if c < 0 then -c else c)) (b := .int 2) ?_ aj (ic (by decide) (by decide) (by decide))
    with_reducible apply bu (by assumption) (by walk_at "u")
    ·walk_at "pe"
    ·rfl
    ·apply ah (by rfl)
     ·with_reducible apply ar
      ·walk_at "pe"
      ·with_reducible exact aj
      ·exact pg_l (d := .int c) o' (by decide) (by decide) rfl
     ·with_reducible exact pa_nil
    ·with_reducible exact pc_abs
   with_reducible apply aa
   exact ⟨rfl, _, rfl⟩
 ·intro hc
  with_reducible apply aa
  exact ⟨rfl, 0, rfl⟩
 ·rintro τ ⟨g, rfl⟩
  refine aw (d := .int 7) o' hmd (by rfl) aj (by walk_at "h") ?_
  with_reducible refine ay (gY o' hmd hh' (fun _ _ => rfl) (am (v := .lst (cs.map .int)) (by walk_at "pe") ⟨_, rfl, rfl, fun j σ' => ∃ st ov, σ' = ⟨[("script", some (.lst (ns.map .int))), ("cells", some (.lst (cs.map .int))), ("great", some (.int g)), ("state", some (.int st)), ("cell", ov)], [("abs", .val (.builtin "abs"))], σ.heap⟩, ⟨_, _, rfl⟩, ?_, ?_⟩))
  ·rintro j e σ' he ⟨st, ov, rfl⟩
   rw [List.getElem?_map] at he
   obtain ⟨c, hc, rfl⟩ := Option.map_eq_some_iff.mp he
   refine ⟨_, by walk_at "h", fun X2 o2 hmd2 hh2 hr2 hs2 => ?_⟩
   apply aw o2 hmd2 (by rfl)
   ·walk_at "pe"
   ·walk_at "h"
   with_reducible apply aa
   exact ⟨_, _, rfl⟩
  ·rintro σ' ⟨st, ov, rfl⟩
   with_reducible apply dU
   with_reducible refine cG (ds := [.lst (cs.map .int), .int g, .int st, .int 0]) (by walk_at "pe") (by simp) ?_
   refine ⟨_, _, σ.heap.length + 1, rfl, ⟨rfl, cs, g, st, rfl, c40⟩, by exact (Om.q 1 0 (.l .x0 (.a .x0 .k1))) _, ?_, decide_eq_true (Nat.lt_succ_self _), ?_⟩
   ·exact List.take_of_length_le (by simp)
   ·exact iu hcl bJ
end
theorem bT {G : Gx} {σ σ' : St} {v : V} {P : V -> List (Option MO) -> Prop} {i : Nat} {n : Int} {H : List (Option MO)} (hcl : af σ.heap.length σ.heap = true) (p : Pst σ.heap H i n) (e : σ'.heap = H) (hP : P v H) (hc : v.closed σ.heap.length = true) :
  PPost σ P (.ret v) σ' := by
 refine ⟨v, H, σ.heap.length, rfl, hP, Nat.le_refl _, ?_, hc, ?_⟩
 ·rw [e, <- p.2.1, List.take_length]
 ·rw [<- p.2.1]; exact p.2.2.2 hcl
noncomputable def gaps8 : List (List Nat) := [S " ", S " ", S "  ", S "\t", S "\r\n ", S " (x) ", S "(Mon, (1))", S " "]
noncomputable def dG (t : List Nat) (y : Int) : Prop := (1950 <= y /\ y <= 2049 /\ t = padI (y.fmod 100) 2) \/ (1900 <= y /\ y <= 2899 /\ t = padI (y - 1900) 3) \/ t = padI y 4
noncomputable def zones13 : List (List Nat × Int) := [(S "gmt", 0), (S "ut", 0), (S "est", -300), (S "edt", -240), (S "cst", -360), (S "cdt", -300), (S "mst", -420), (S "mdt", -360), (S "pst", -480), (S "pdt", -420), (S "z", 0), (S "a", 0), (S "cet", 0)]
noncomputable def rows13 : List (Str × Int) := [("gmt", 0), ("ut", 0), ("est", -300), ("edt", -240), ("cst", -360), ("cdt", -300), ("mst", -420), ("mdt", -360), ("pst", -480), ("pdt", -420), ("z", 0), ("a", 0), ("cet", 0)]
theorem rows13_tab : (rows13.map fun p => (p.1.cps.toList, p.2)) = zones13 := by simp only [rows13, List.map_cons, List.map_nil, zones13]
theorem rows13_nodup : (rows13.map fun p => p.1.cps.toList).Nodup := by decide +kernel
noncomputable def cD (t : List Nat) (z : Int) : Prop := (∃ nm ∈ zones13.map (·.1), (t = nm \/ t = uppL nm) /\ bG nm zones13 = some z) \/
 (∃ m : Int, 0 <= m /\ m <= 5999 /\ ((t = S "+" ++ padI (m.fdiv 60) 2 ++ padI (m.fmod 60) 2 /\ z = m) \/ (t = S "-" ++ padI (m.fdiv 60) 2 ++ padI (m.fmod 60) 2 /\ z = -m)))
theorem zones13_ok : ∀ k ∈ zones13.map (·.1), k.length <= 3 /\ (∀ c ∈ k, c < 256) /\ (bG k zones13).isSome = true := by decide +kernel
section
variable {G : Gx} {X : Fx} {σ τ : St} {Ψ : Ps} {Φ : V -> St -> Prop} {ΦF : Fl -> St -> Prop}
noncomputable def litV : Expr -> Option V
 | .Constant (.int i) _ _ => some (.int i)
 | .Constant (.str x) _ _ => some (.str x.cps.toList)
 | .Constant (.bytes x) _ _ => some (.bytes x)
 | _ => none
noncomputable def lits : List Expr -> Option (List V)
 | [] => some []
 | e :: es => match litV e, lits es with | some v, some vs => some (v :: vs) | _, _ => none
theorem pe_litV {e : Expr} {v : V} (h : litV e = some v) : PE G X e σ v /\ noStar e = true := by
 have no : ∀ {p : Prop}, Option.none = some v -> p := fun q => nomatch q
 cases e with
 | Constant c k p => cases c with
  | int => obtain rfl := Option.some.inj h; exact ⟨aj, rfl⟩
  | str => obtain rfl := Option.some.inj h; exact ⟨b4, rfl⟩
  | bytes => obtain rfl := Option.some.inj h; exact ⟨gz, rfl⟩
  | _ => exact no h
 | _ => exact no h
set_option tactic.hygienic true in
theorem pa_lits {es : List Expr} {vs : List V} (h : lits es = some vs) : PA G X es σ vs := by
 induction es generalizing vs with
 | nil => injection h with h; subst h; exact pa_nil
 | cons e es ih =>
  unfold lits at h
  split at h
  ·rename_i v vs' h1 h2
   injection h with h; subst h
   with_reducible exact ah (pe_litV (G := G) (X := X) (σ := σ) h1).2 (pe_litV h1).1 (ih h2)
  ·exact nomatch h
theorem ef {es : List Expr} {k : Nat} {pos : Pos} {vs : List V} (h : lits es = some vs) (hl : vs.length <= 1000) : PE G X (.Tuple es k pos) σ (.tup vs) := bU (pa_lits h) hl
theorem eo (B : Base G) (o : X.Ok G) (hr : 1 <= X.room) {n w : Int} (h0 : 0 <= n) (h1 : n < 10 ^ 9) (hw : 0 <= w) (hw2 : w <= 100) : PC G X (.glob "_law_figures") [.int n, .int w] σ (.str (padI n w)) := by
 have hl := cW (n := n.toNat) ((Om.q 1 1 .f29) _ _ h0 h1 (Om.tno _))
 refine aq ["number", "width"] ["text"] [("str", .val (.type "str")), ("len", .val (.builtin "len"))] o (Om.lo hr) B.f_law_figures (by walk_at "dk") (.cons B.str (.cons B.len .nil)) rfl fun X' o' hmd hh hr' => ?_
 dsimp only [mkLoc, List.map]
 apply aw o' hmd rfl
 ·walk_at "pe"
 ·walk_at "h"
 have hrep : ((List.replicate (w - ((figs n.toNat).length : Int)).toNat (S "0")).flatten).length <= 100 := by
  rw [S0, List.length_flatten]; simp; exact (Om.q 1 1 .f59) _ _ hw hw2 hl
 with_reducible apply ac
 ·walk_at "pe"
 ·exact ⟨rfl, rfl⟩
theorem p_zones (B : Base G) (o : X.Ok G) (hr : 1 <= X.room) : PC G X (.glob "_law_zones") [] σ (.dict (kvV zones13)) := by
 refine aq [] [] [] o (Om.lo hr) B.f_law_zones (by walk_at "dk") .nil rfl fun X' o' hmd hh hr' => ?_
 dsimp only [mkLoc, List.map]
 refine ay ?_
 with_reducible refine fu ?_
 with_reducible refine ex_dict (r := rows13) o' (.pos (.pos (.neg (.neg (.neg (.neg (.neg (.neg (.neg (.neg (.pos (.pos (.pos .nil))))))))))))) rfl rfl (fun h => nomatch h) (by decide) rows13_nodup ?_
 rw [rows13_tab]; exact ⟨rfl, rfl⟩
theorem p_length (B : Base G) (o : X.Ok G) (hr : 1 <= X.room) {y m : Int} (h1 : 1 <= m) (h2 : m <= 12) : PC G X (.glob "_law_length") [.int y, .int m] σ (.int (aB y m)) := by
 refine aq ["year", "month"] [] [] o (Om.lo hr) B.f_law_length (by walk_at "dk") .nil rfl fun X' o' hmd hh hr' => ?_
 dsimp only [mkLoc, List.map]
 apply az
 ·walk_at "pe"
 ·intro hc
  have hc : m = 2 := by simpa using hc
  with_reducible refine ac (v := .int (28 + (if ((decide (y.fmod 4 = 0) && decide (y.fmod 100 ≠ 0)) || decide (y.fmod 400 = 0)) = true then 1 else 0))) ?_ ?_
  ·walk_at "pe"
  ·refine ⟨?_, rfl⟩
   congr 1
   congr 1
   unfold aB leap
   rw [if_pos hc, Int.fmod_eq_emod_of_nonneg _ (by decide), Int.fmod_eq_emod_of_nonneg _ (by decide), Int.fmod_eq_emod_of_nonneg _ (by decide)]
   by_cases a : y % 4 = 0 <;> by_cases b : y % 100 = 0 <;> by_cases c : y % 400 = 0 <;> simp [a, b, c] <;> first | exact (a ((Int.emod_emod_of_dvd y (show (4 : Int) ∣ 100 by decide)).symm.trans (by rw [b]; rfl))).elim | exact (b ((Int.emod_emod_of_dvd y (show (100 : Int) ∣ 400 by decide)).symm.trans (by rw [c]; rfl))).elim
 ·intro hc
  have hc : ¬ m = 2 := by simpa using hc
  with_reducible apply aa
  with_reducible refine ay ?_
  with_reducible refine g9 (v := .int (aB y m)) ?_ ⟨rfl, rfl⟩
  with_reducible refine ar (a := .tup [.int 31, .int 28, .int 31, .int 30, .int 31, .int 30, .int 31, .int 31, .int 30, .int 31, .int 30, .int 31]) (b := .int (m - 1)) ?_ ?_ (pg_t o' (by with_unfolding_all exact (Om.q 0 1 .f10) _ h1 h2) (by decide) ?_)
  ·with_reducible refine ef ?_ (by decide)
   rfl
  ·walk_at "pe"
  ·unfold aB
   rw [if_neg hc]
   have : m = 1 \/ m = 3 \/ m = 4 \/ m = 5 \/ m = 6 \/ m = 7 \/ m = 8 \/ m = 9 \/ m = 10 \/ m = 11 \/ m = 12 := by exact (Om.q 0 1 (.i (.L .k1 .x0) (.i (.L .x0 (.k 12)) (.i (.n (.E .x0 (.k 2))) (.o (.E .x0 .k1) (.o (.E .x0 (.k 3)) (.o (.E .x0 (.k 4)) (.o (.E .x0 (.k 5)) (.o (.E .x0 (.k 6)) (.o (.E .x0 (.k 7)) (.o (.E .x0 (.k 8)) (.o (.E .x0 (.k 9)) (.o (.E .x0 (.k 10)) (.o (.E .x0 (.k 11)) (.E .x0 (.k 12)))))))))))))))) _ h1 h2 hc
   rcases this with h | h | h | h | h | h | h | h | h | h | h <;> subst h <;> rfl
theorem e9 (B : Base G) (o : X.Ok G) (hf : X.md = .fr) (hh0 : X.A.handled = none) (hr : 1 <= X.room) {i : Nat} {m n : Int} {es : List Expr} {p pos : Pos} (hp : ag es = true) (hg : HasG "_law_draw" (.glob "_law_draw") σ.glb) (h2 : PA G X es σ [.loc i, .int m]) (hpl : cK σ.heap i n) (hn : n <= 1000) (h1 : 0 < m) (hm : m <= 1000000)
  (hok : ∀ d H, 0 <= d -> d < m -> Pst σ.heap H i (n + 1) -> Φ (.int d) { σ with heap := H }) : EX G X (.Call (.Name "_law_draw" p) es [] pos) Φ Ψ σ :=
 ex_rp o hp (au o hg) rfl h2 (rp_draw B o hf hh0 hr hpl hn h1 hm) fun v H ⟨d, e, a, b, c⟩ => by subst e; exact hok d H a b c
theorem cu {oe ie : Expr} {pos : Pos} {ds : List V} (ok : X.Ok G) (h1 : PE G X oe σ (.tup ds)) (hz : ds.length <= 1000000) (h : EX G X ie (fun b σ2 => ∃ k d, b = .int k /\ 0 <= k /\ ds[k.toNat]? = some d /\ Φ d σ2) Ψ σ) : EX G X (.Subscript oe ie pos) Φ Ψ σ := by
 with_reducible refine dL (am h1 ?_)
 intro W s R
 refine wpAny_mono (h W s R) (fun v s_1 y => y.mono .rfl fun b σ2 ⟨k, d, e, h0, hd, hΦ⟩ => ?_) fun _ _ y => y
 subst e
 exact ga ok h0 hz hd hΦ
theorem rp_gap (B : Base G) (o : X.Ok G) (hf : X.md = .fr) (hh0 : X.A.handled = none) (hr : 2 <= X.room) {i : Nat} {n : Int} (hp : cK σ.heap i n) (hn : n <= 900) : RP G X (.glob "_law_gap") [.loc i] σ (fun v H => ∃ g ∈ gaps8, v = .str g /\ Pst σ.heap H i (n + 1)) := by
 refine rdefP ["pool"] [] [("_law_draw", .glob "_law_draw")] o hf (Om.lo hr) B.f_law_gap (by walk_at "dk") (.cons (av B.f_law_draw) .nil) fun X' o' hmd hh hr' hsc hcl => ?_
 dsimp only [mkLoc, List.map]
 have hh' : X'.A.handled = none := hh.trans hh0
 apply dU
 with_reducible refine cu (ds := gaps8.map .str) o' (ef (by walk_at "u") (by decide)) (by decide) (e9 (i := i) (m := 8) (n := n) B o' hmd hh' (by with_unfolding_all exact (Om.q 3 0 (.i (.l (.k 2) .x2) (.i (.e .x1 .x0) (.i (.o (.a (.l .k1 .x2) (.e (.a .x0 .k1) .x2)) (.a (.t .x2 .k1) (.e .x0 .k0))) (.l .k1 .x1))))) _ _ _ hr hr' (Om.sbo _ _)) (by walk_at "u") (by walk_at "h") (by walk_at "pe") hp (by with_unfolding_all exact (Om.q 0 1 .f41) _ hn) (by decide) (by decide) fun d H h0 h1 hs => ?_)
 have hl : d.toNat < gaps8.length := by show d.toNat < 8; exact (Om.q 1 1 (.i (.L .k0 .x0) (.i (.T .x0 (.k 8)) (.i (.o (.a (.L .k0 .x0) (.E (.c .x0) .x0)) (.a (.T .x0 .k0) (.e .x0 .k0))) (.t .x0 (.k 8)))))) _ _ h0 h1 (Om.tno _)
 refine ⟨d, .str (gaps8[d.toNat]'hl), rfl, h0, by rw [List.getElem?_map, List.getElem?_eq_getElem hl]; rfl, ?_⟩
 exact bT (G := G) hcl hs rfl ⟨_, List.getElem_mem hl, rfl, hs⟩ rfl
local macro_rules | `(tactic| walk_at "own") => `(tactic| apply eo <;> walk_at "sd")
theorem tx_and2 {e e' : Expr} {pos : Pos} {c : Bool} {ΦB : Bool -> St -> Prop} (h1 : PT G X e σ c) (h2 : c = true -> TX G X e' ΦB Ψ σ) (h3 : c = false -> ΦB false σ) : TX G X (.BoolOp .And [e, e'] pos) ΦB Ψ σ := by
 with_reducible refine tx_bool (fJ (de h1 ⟨fun hc => fJ ?_, h3⟩))
 intro W s R
 refine wpAny_mono (h2 hc W s R) (fun v s_1 y => y.mono .rfl fun b σ1 h => ?_) fun _ _ y => y
 refine ⟨fun hb => gW ?_, fun hb => ?_⟩
 ·show ΦB true σ1
  subst hb; exact h
 ·subst hb; exact h
theorem tx_eqi {l : Expr} {k : Int} {kk : Nat} {kp pos : Pos} {ΦB : Bool -> St -> Prop} (h : EX G X l (fun a σ1 => ∃ d, a = .int d /\ ΦB (decide (d = k)) σ1) Ψ σ) : TX G X (.Compare l [.Eq] [.Constant (.int k) kk kp] pos) ΦB Ψ σ := by
 refine gX (by rfl) ?_
 intro W s R
 refine wpAny_mono (h W s R) (fun v s_1 y => y.mono .rfl fun a σ1 ⟨d, e, h⟩ => ?_) fun _ _ y => y
 subst e
 with_reducible exact iG (cmp_eq (bf h))
theorem tx_gti {l : Expr} {k : Int} {kk : Nat} {kp pos : Pos} {ΦB : Bool -> St -> Prop} (h : EX G X l (fun a σ1 => ∃ d, a = .int d /\ ΦB (decide (k < d)) σ1) Ψ σ) : TX G X (.Compare l [.Gt] [.Constant (.int k) kk kp] pos) ΦB Ψ σ := by
 refine gX (by rfl) ?_
 intro W s R
 refine wpAny_mono (h W s R) (fun v s_1 y => y.mono .rfl fun a σ1 ⟨d, e, h⟩ => ?_) fun _ _ y => y
 subst e
 with_reducible exact iG (cmp_gt (bf h))
theorem je {t : Expr} {b : List Stmt} {pos : Pos} {ts : List Stmt} (P : St -> Prop) (p : TX G X t (fun c σ1 => (c = true -> SSX G X b (fun f σ2 => match f with | .next => False | f => ΦF f σ2) Ψ σ1) /\ (c = false -> P σ1)) Ψ σ) (k : ∀ τ, P τ -> SSX G X ts ΦF Ψ τ) : SSX G X (.If t b [] pos :: ts) ΦF Ψ σ := by
 with_reducible refine gn ?_
 intro W s R
 refine wpAny_mono (p W s R) (fun c s_1 y => y.mono .rfl fun c σ1 ⟨h1, h2⟩ => ⟨fun hc => bk (h1 hc) fun f σ2 h => ?_, fun hc => aa (k σ1 (h2 hc))⟩) fun _ _ y => y
 cases f with
 | next => exact h.elim
 | _ => exact h
theorem rp_year (B : Base G) (o : X.Ok G) (hf : X.md = .fr) (hh0 : X.A.handled = none) (hr : 2 <= X.room) {i : Nat} {n y : Int} (hp : cK σ.heap i n) (hn : n <= 900) (hy1 : 1 <= y) (hy2 : y <= 9999) : RP G X (.glob "_law_year") [.loc i, .int y] σ (fun v H => ∃ t, dG t y /\ v = .str t /\ Pst σ.heap H i (n + 2)) := by
 refine rdefP ["pool", "year"] [] [("_law_draw", .glob "_law_draw"), ("_law_figures", .glob "_law_figures")] o hf (Om.lo hr) B.f_law_year (by walk_at "dk") (.cons (av B.f_law_draw) (.cons (av B.f_law_figures) .nil)) fun X' o' hmd hh hr' hsc hcl => ?_
 dsimp only [mkLoc, List.map]
 have hh' : X'.A.handled = none := hh.trans hh0
 have b1 : 0 <= y.fmod 100 := Int.fmod_nonneg_of_pos _ (by decide)
 have b2 : y.fmod 100 < 10 ^ 9 := by have := Int.fmod_lt_of_pos y (b := 100) (by decide); exact (Om.q 0 1 .f42) _ b1 this
 have hp0 : Pst σ.heap σ.heap i n := ⟨hp, rfl, fun _ _ => rfl, id⟩
 refine je (fun τ => ∃ H, τ = ⟨[("pool", some (.loc i)), ("year", some (.int y))], [("_law_draw", .glob "_law_draw"), ("_law_figures", .glob "_law_figures")], H⟩ /\ Pst σ.heap H i (n + 1)) ?_ ?_
 ·refine tx_and2 (c := decide (1950 <= y) && decide (y <= 2049)) (by walk_at "pe") (fun hc => tx_eqi (e9 (i := i) (m := 2) (n := n) B o' hmd hh' (Om.rm hr hr') (by walk_at "u") (by walk_at "h") (by walk_at "pe") hp ((Om.q 0 1 .f41) _ hn) (by decide) (by decide) fun d H h0 h1 hs => ⟨d, rfl, fun hd => ?_, fun _ => ⟨H, rfl, hs⟩⟩)) fun _ => ⟨(fun h => nomatch h), fun _ => ⟨_, rfl, hp0.mono ((Om.q 0 1 (.L .x0 (.a .x0 .k1))) _)⟩⟩
  with_reducible refine ac (v := .str (padI (y.fmod 100) 2)) (by walk_at "pe") ?_
  refine bT (G := G) (n := n + 2) hcl (hs.mono ((Om.q 0 1 .f43) _)) rfl ⟨_, .inl ?_, rfl, hs.mono ((Om.q 0 1 .f43) _)⟩ rfl
  simp at hc
  exact ⟨hc.1, hc.2, rfl⟩
 rintro τ ⟨H1, rfl, hs1⟩
 with_reducible refine je (fun τ => ∃ H, τ = ⟨[("pool", some (.loc i)), ("year", some (.int y))], [("_law_draw", .glob "_law_draw"), ("_law_figures", .glob "_law_figures")], H⟩ /\ Pst σ.heap H i (n + 2)) ?_ ?_
 ·refine tx_and2 (c := decide (1900 <= y) && decide (y <= 2899)) (by walk_at "pe") (fun hc => tx_eqi (e9 (i := i) (m := 3) (n := n + 1) B o' hmd hh' (Om.rm hr hr') (by walk_at "u") (by walk_at "h") (by walk_at "pe") hs1.1 ((Om.q 0 1 .f44) _ hn) (by decide) (by decide) fun d H h0 h1 hs => ⟨d, rfl, fun hd => ?_, fun _ => ⟨H, rfl, (hs1.trans hs).mono ((Om.q 0 1 .f11) _)⟩⟩)) fun _ => ⟨(fun h => nomatch h), fun _ => ⟨_, rfl, hs1.mono ((Om.q 0 1 .f43) _)⟩⟩
  simp at hc
  have q1 : 0 <= y - 1900 := by exact (Om.q 0 1 (.i (.L .k1 .x0) (.i (.L .x0 (.k 9999)) (.i (.a (.L (.k 1900) .x0) (.L .x0 (.k 2899))) (.L .k0 (.s .x0 (.k 1900))))))) _ hy1 hy2 hc
  have q2 : y - 1900 < 10 ^ 9 := by exact (Om.q 0 1 (.i (.L .k1 .x0) (.i (.L .x0 (.k 9999)) (.i (.a (.L (.k 1900) .x0) (.L .x0 (.k 2899))) (.T (.s .x0 (.k 1900)) (.k 1000000000)))))) _ hy1 hy2 hc
  with_reducible refine ac (v := .str (padI (y - 1900) 3)) (by walk_at "pe") ?_
  refine bT (G := G) (n := n + 2) hcl ((hs1.trans hs).mono ((Om.q 0 1 .f11) _)) rfl ⟨_, .inr (.inl ?_), rfl, (hs1.trans hs).mono ((Om.q 0 1 .f11) _)⟩ rfl
  exact ⟨hc.1, hc.2, rfl⟩
 rintro τ ⟨H2, rfl, hs2⟩
 have q1 : 0 <= y := by exact (Om.q 0 1 .f2) _ hy1 hy2
 have q2 : y < 10 ^ 9 := by exact (Om.q 0 1 .f4) _ hy1 hy2
 with_reducible refine ac (v := .str (padI y 4)) (by walk_at "pe") ?_
 exact bT (G := G) hcl hs2 rfl ⟨_, .inr (.inr rfl), rfl, hs2⟩ rfl
end
section
variable {G : Gx} {X : Fx} {σ τ : St} {Ψ : Ps} {Φ : V -> St -> Prop} {ΦF : Fl -> St -> Prop}
theorem iB {a b : Expr} {k : Nat} {pos : Pos} (ha : noStar a = true) (hb : noStar b = true) (h : EX G X a (fun x σ1 => EX G X b (fun y σ2 => Φ (.tup [x, y]) σ2) Ψ σ1) Ψ σ) : EX G X (.Tuple [a, b] k pos) Φ Ψ σ :=
 jD fun q => bX ha <| by
  intro W s R
  refine wpAny_mono (h W s R) (fun v s_1 y => y.mono .rfl fun x σ1 h => ?_) fun _ _ y => y
  with_reducible refine bX hb ?_
  intro W s R
  refine wpAny_mono (h W s R) (fun v s_1 y => y.mono .rfl fun x σ1 h => ?_) fun _ _ y => y
  with_reducible exact eF ⟨by simp, h⟩
theorem cX (B : Base G) (o : X.Ok G) (hf : X.md = .fr) (hh0 : X.A.handled = none) (hr : 1 <= X.room) {i : Nat} {l : List (Str × Option V)} {g : List (Str × V)} {H0 : List (Option MO)} {m n : Int} {es : List Expr} {p pos : Pos} (hp : ag es = true) (hg : HasG "_law_draw" (.glob "_law_draw") g) (h2 : PA G X es ⟨l, g, H0⟩ [.loc i, .int m]) (hpl : cK H0 i n) (hn : n <= 1000) (h1 : 0 < m) (hm : m <= 1000000)
  (hok : ∀ d H, 0 <= d -> d < m -> Pst H0 H i (n + 1) -> Φ (.int d) ⟨l, g, H⟩) : EX G X (.Call (.Name "_law_draw" p) es [] pos) Φ Ψ ⟨l, g, H0⟩ :=
 e9 B o hf hh0 hr hp hg h2 hpl hn h1 hm hok
theorem jL {k : List Nat} (h : k ∈ zones13.map (·.1)) : ∃ z, bG k zones13 = some z /\ k.length <= 3 /\ ∀ c ∈ k, c < 256 := by
 obtain ⟨a, b, c⟩ := zones13_ok k h
 obtain ⟨z, hz⟩ := Option.isSome_iff_exists.mp c
 exact ⟨z, hz, a, b⟩
local macro_rules | `(tactic| walk_at "own") => `(tactic| (first | apply eo | apply p_zones | apply gA) <;> walk_at "sd")
theorem rp_zone (B : Base G) (o : X.Ok G) (hf : X.md = .fr) (hh0 : X.A.handled = none) (hr : 2 <= X.room) {i : Nat} {n : Int} (hp : cK σ.heap i n) (hn : n <= 900) : RP G X (.glob "_law_zone") [.loc i] σ (fun v H => ∃ t z, cD t z /\ v = .tup [.str t, .int z] /\ Pst σ.heap H i (n + 4)) := by
 refine rdefP ["pool"] ["name", "minutes", "sign"] [("_law_draw", .glob "_law_draw"), ("_law_zones", .glob "_law_zones"), ("_law_figures", .glob "_law_figures"), ("sorted", .val (.builtin "sorted"))] o hf (Om.lo hr) B.f_law_zone (by walk_at "dk") (.cons (av B.f_law_draw) (.cons (av B.f_law_zones) (.cons (av B.f_law_figures) (.cons B.sorted .nil)))) fun X' o' hmd hh hr' hsc hcl => ?_
 dsimp only [mkLoc, List.map]
 have hh' : X'.A.handled = none := hh.trans hh0
 refine gn (tx_eqi (cX (i := i) (m := 3) (n := n) B o' hmd hh' (Om.rm hr hr') (by walk_at "u") (by walk_at "h") (by walk_at "pe") hp ((Om.q 0 1 .f41) _ hn) (by decide) (by decide) fun d H1 h0 h1 hs1 => ⟨d, rfl, fun hd => ?_, fun hd => aa ?_⟩))
 ·clear hd
  refine bb o' hmd (by rfl) (dL (cv o' (by walk_at "u") (am (au o' (by walk_at "h")) ⟨rfl, fun q => cQ (vs := [.dict (kvV zones13)]) (by walk_at "pe") (j8 o' hh' (by decide) fun ks hks => ?_)⟩)))
  refine cX (i := i) (m := 13) (n := n + 1) B o' hmd hh' (Om.rm hr hr') (by walk_at "u") (by walk_at "h") (by walk_at "pe") (hs1.1.mono ((Om.q 0 1 (.L (.a .x0 .k1) (.a .x0 .k1))) _)) ((Om.q 0 1 .f44) _ hn) (by decide) (by decide) fun d H2 h0 h1 hs2 => ?_
  have hl : d.toNat < ks.length := by rw [hks.length_eq]; show d.toNat < 13; exact (Om.q 1 1 (.i (.L .k0 .x0) (.i (.T .x0 (.k 13)) (.i (.o (.a (.L .k0 .x0) (.E (.c .x0) .x0)) (.a (.T .x0 .k0) (.e .x0 .k0))) (.t .x0 (.k 13)))))) _ _ h0 h1 (Om.tno _)
  refine get_lst (d := .str ks[d.toNat]) o' h0 ((Om.q 0 1 (.i (.L .k0 .x0) (.i (.T .x0 (.k 13)) (.T .x0 (.k 1000000))))) _ h0 h1) (by rw [List.getElem?_map, List.getElem?_eq_getElem hl]; rfl) ?_
  have hm : ks[d.toNat] ∈ zones13.map (·.1) := hks.mem_iff.mp (List.getElem_mem hl)
  revert hm
  obtain ⟨nm, hnm⟩ : ∃ y, ks[d.toNat] = y := ⟨_, rfl⟩
  rw [hnm]
  intro hm
  obtain ⟨z, hz, hlen, hb⟩ := jL hm
  have hlen' : nm.length <= 1000000 := by exact Om.hi hlen
  refine ⟨_, by walk_at "h", ?_⟩
  refine dU (iB (by rfl) (by rfl) (cu (ds := [.str nm, .str (uppL nm)]) o' (by walk_at "pe") (by simp) ?_))
  refine cX (i := i) (m := 2) (n := n + 2) B o' hmd hh' (Om.rm hr hr') (by walk_at "u") (by walk_at "h") (by walk_at "pe") (hs2.1.mono ((Om.q 0 1 .f11) _)) ((Om.q 0 1 .f83) _ hn) (by decide) (by decide) fun d H3 h0 h1 hs3 => ?_
  have hd : d = 0 \/ d = 1 := by exact (Om.q 0 1 .f6) _ h0 h1
  rcases hd with rfl | rfl
  ·refine ⟨0, .str nm, rfl, by decide, rfl, ?_⟩
   with_reducible refine am (v := .int z) (by walk_at "pe") ?_
   exact bT (G := G) (n := n + 4) hcl (((hs1.trans hs2).trans hs3).mono ((Om.q 0 1 .f23) _)) rfl ⟨_, _, .inl ⟨nm, hm, .inl rfl, hz⟩, rfl, ((hs1.trans hs2).trans hs3).mono ((Om.q 0 1 .f23) _)⟩ rfl
  ·refine ⟨1, .str (uppL nm), rfl, by decide, rfl, ?_⟩
   with_reducible refine am (v := .int z) (by walk_at "pe") ?_
   exact bT (G := G) (n := n + 4) hcl (((hs1.trans hs2).trans hs3).mono ((Om.q 0 1 .f23) _)) rfl ⟨_, _, .inl ⟨nm, hm, .inr rfl, hz⟩, rfl, ((hs1.trans hs2).trans hs3).mono ((Om.q 0 1 .f23) _)⟩ rfl
 ·clear hd
  refine bb o' hmd (by rfl) (cI (cI (am (v := .int 60) (by walk_at "pe") ?_)))
  refine cX (i := i) (m := 100) (n := n + 1) B o' hmd hh' (Om.rm hr hr') (by walk_at "u") (by walk_at "h") (by walk_at "pe") (hs1.1.mono ((Om.q 0 1 (.L (.a .x0 .k1) (.a .x0 .k1))) _)) ((Om.q 0 1 .f44) _ hn) (by decide) (by decide) fun d1 H2 h10 h11 hs2 => ?_
  with_reducible refine iS ?hm ?_
  case hm => exact IntMulOk.of_left (eL (by decide) (by decide))
  refine cX (i := i) (m := 60) (n := n + 2) B o' hmd hh' (Om.rm hr hr') (by walk_at "u") (by walk_at "h") (by walk_at "pe") (hs2.1.mono ((Om.q 0 1 .f11) _)) ((Om.q 0 1 .f83) _ hn) (by decide) (by decide) fun d2 H3 h20 h21 hs3 => iT ⟨_, by walk_at "h", ?_⟩
  obtain ⟨m, hm⟩ : ∃ m, m = 60 * d1 + d2 := ⟨_, rfl⟩
  rw [<- hm]
  have hm0 : 0 <= m := by exact (Om.q 0 3 (.i (.L .k0 .x2) (.i (.T .x2 (.k 100)) (.i (.L .k0 .x1) (.i (.T .x1 (.k 60)) (.i (.E .x0 (.a (.m 60 .x2) .x1)) (.L .k0 .x0))))))) _ _ _ h10 h11 h20 h21 hm
  have hm1 : m <= 5999 := by exact (Om.q 0 3 (.i (.L .k0 .x2) (.i (.T .x2 (.k 100)) (.i (.L .k0 .x1) (.i (.T .x1 (.k 60)) (.i (.E .x0 (.a (.m 60 .x2) .x1)) (.L .x0 (.k 5999)))))))) _ _ _ h10 h11 h20 h21 hm
  refine bb o' hmd (by rfl) ?_
  refine cX (i := i) (m := 2) (n := n + 3) B o' hmd hh' (Om.rm hr hr') (by walk_at "u") (by walk_at "h") (by walk_at "pe") (hs3.1.mono ((Om.q 0 1 (.L (.a (.a .x0 (.k 2)) .k1) (.a .x0 (.k 3)))) _)) ((Om.q 0 1 (.i (.L .x0 (.k 900)) (.L (.a .x0 (.k 3)) (.k 1000)))) _ hn) (by decide) (by decide) fun d3 H4 h30 h31 hs4 => ⟨_, by walk_at "h", ?_⟩
  have e1 : m.fdiv 60 = m / 60 := by rw [Int.fdiv_eq_ediv_of_nonneg _ (by decide)]
  have e2 : m.fmod 60 = m % 60 := by rw [Int.fmod_eq_emod_of_nonneg _ (by decide)]
  have q1 : 0 <= m.fdiv 60 := by exact (Om.q 0 5 .f84) _ _ _ _ _ hm0 hm1 e1 e2 (Om.zdv _ 60 rfl) (Int.mul_ediv_add_emod _ 60)
  have q2 : m.fdiv 60 < 10 ^ 9 := by exact (Om.q 0 5 .f85) _ _ _ _ _ hm0 hm1 e1 e2 (Om.zdv _ 60 rfl) (Int.mul_ediv_add_emod _ 60)
  have q3 : 0 <= m.fmod 60 := by exact (Om.q 0 4 .f45) _ _ _ _ e2 (Om.zdv _ 60 rfl) (Int.mul_ediv_add_emod _ 60)
  have q4 : m.fmod 60 < 10 ^ 9 := by exact (Om.q 0 4 .f46) _ _ _ _ e2 (Om.zdv _ 60 rfl) (Int.mul_ediv_add_emod _ 60)
  have l1 : (padI (m.fdiv 60) 2).length <= 111 := aG ((Om.q 0 3 (.i (.E .x2 .x1) (.i (.L .k0 .x2) (.i (.T .x2 (.k 1000000000)) (.i (.a (.L (.m 60 .x1) .x0) (.T .x0 (.a (.m 60 .x1) (.k 60)))) (.L .k0 .x2)))))) _ _ _ e1 q1 q2 (Om.zdv _ 60 rfl)) ((Om.q 0 3 (.i (.E .x2 .x1) (.i (.L .k0 .x2) (.i (.T .x2 (.k 1000000000)) (.i (.a (.L (.m 60 .x1) .x0) (.T .x0 (.a (.m 60 .x1) (.k 60)))) (.T .x2 (.k 1000000000))))))) _ _ _ e1 q1 q2 (Om.zdv _ 60 rfl)) (by decide)
  have l2 : (padI (m.fmod 60) 2).length <= 111 := aG ((Om.q 0 4 .f45) _ _ _ _ e2 (Om.zdv _ 60 rfl) (Int.mul_ediv_add_emod _ 60)) ((Om.q 0 4 .f46) _ _ _ _ e2 (Om.zdv _ 60 rfl) (Int.mul_ediv_add_emod _ 60)) (by decide)
  have s1 : (S "+").length = 1 := rfl
  have s2 : (S "-").length = 1 := rfl
  have l3 : (S "+").length + (padI (m.fdiv 60) 2).length <= 1000000 := by exact (Om.q 2 0 .f86) _ _ l1 s1
  have l4 : (S "+" ++ padI (m.fdiv 60) 2).length + (padI (m.fmod 60) 2).length <= 1000000 := by rw [List.length_append]; exact (Om.q 3 0 .f87) _ _ _ l1 l2 s1 l3
  have l5 : (S "-").length + (padI (m.fdiv 60) 2).length <= 1000000 := by exact (Om.q 2 0 .f86) _ _ l1 s2
  have l6 : (S "-" ++ padI (m.fdiv 60) 2).length + (padI (m.fmod 60) 2).length <= 1000000 := by rw [List.length_append]; exact (Om.q 3 0 .f87) _ _ _ l1 l2 s2 l5
  have hs := ((hs1.trans hs2).trans hs3).trans hs4
  have hd : d3 = 0 \/ d3 = 1 := by exact (Om.q 0 1 .f6) _ h30 h31
  rcases hd with rfl | rfl
  ·with_reducible refine ac (v := .tup [.str (S "+" ++ padI (m.fdiv 60) 2 ++ padI (m.fmod 60) 2), .int m]) ?_ ?_
   ·walk_at "pe"
   ·exact bT (G := G) (n := n + 4) hcl (hs.mono ((Om.q 0 1 .f24) _)) rfl ⟨_, _, .inr ⟨m, hm0, hm1, .inl ⟨rfl, rfl⟩⟩, rfl, hs.mono ((Om.q 0 1 .f24) _)⟩ rfl
  ·with_reducible refine ac (v := .tup [.str (S "-" ++ padI (m.fdiv 60) 2 ++ padI (m.fmod 60) 2), .int (-m)]) ?_ ?_
   ·walk_at "pe"
   ·exact bT (G := G) (n := n + 4) hcl (hs.mono ((Om.q 0 1 .f24) _)) rfl ⟨_, _, .inr ⟨m, hm0, hm1, .inr ⟨rfl, rfl⟩⟩, rfl, hs.mono ((Om.q 0 1 .f24) _)⟩ rfl
end
local macro_rules | `(tactic| walk_at "own") => `(tactic| (first | apply p_zones | apply gA | apply pc_lower) <;> walk_at "sd")
section
variable {G : Gx} {X : Fx} {σ τ : St} {Ψ : Ps} {Φ : V -> St -> Prop} {ΦF : Fl -> St -> Prop}
theorem kR (B : Base G) (o : X.Ok G) (hh0 : X.A.handled = none) (hr : 1 <= X.room) {ts : List Tk} {a : Int} (R : Rdr ts a) : PC G X (.glob "_law_atom") [.lst (ts.map tkV), .int a] σ (.str (ad ts a)) := by
 have r1 := R.n
 have r2 := R.a0
 have r3 := R.a1
 have r4 : (ts.map tkV).length <= 10000 := by rw [List.length_map]; exact r1
 refine aq ["tokens", "at"] [] [("len", .val (.builtin "len"))] o (Om.lo hr) B.f_law_atom (by walk_at "dk") (.cons B.len .nil) rfl fun X' o' hmd hh hr' => ?_
 dsimp only [mkLoc, List.map]
 have hh' : X'.A.handled = none := hh.trans hh0
 by_cases hl : a < ts.length
 ·obtain ⟨t, ht⟩ := ft r2 hl
  have hs := gt ht
  apply az
  ·walk_at "pe"
  ·intro hc
   with_reducible apply ac
   ·walk_at "pe"
   ·refine ⟨?_, rfl⟩
    unfold ad
    rw [ht]
    simp at hc
    rcases hc with hc | hc
    ·exact ((Om.q 1 1 .f32) _ _ hl hc : False).elim
    ·dsimp only; rw [if_neg hc, S_e']
  ·intro hc
   have hk : t.1 = S "atom" := by simp at hc; exact hc.2
   have hw := R.w t (List.mem_of_getElem? ht) hk
   with_reducible apply aa
   with_reducible refine ac (v := .str (aX [] (t.2.1.map fun c => [c.toNat]))) ?_ ?_
   ·with_reducible refine aI (by assumption) (by walk_at "u") ⟨_, fun _ => by walk_at "u"⟩ b4 dn rfl (ds := [.lst ((t.2.1.map fun c => V.int c.toNat).map fun d => .str [oneOf d])]) ?_ ?_
    ·apply ah (by rfl)
     ·refine bV [("chr", .val (.builtin "chr"))] (fun d => .str [oneOf d]) (d := .bytes t.2.1) o' hmd hh' (by rfl) (.cons B.chr .nil) (fun _ _ => rfl) (fun _ => by walk_at "u") (by walk_at "pe") rfl rfl (by simp; exact Om.hi hw) ?_
      intro d hd X2 o2 hm2 hh2 hr2
      obtain ⟨c, hc, rfl⟩ := List.mem_map.mp hd
      have := c.toNat_lt
      show PE _ _ _ _ (.str [((c.toNat : Nat) : Int).toNat])
      walk_at "pe"
     ·with_reducible exact pa_nil
    ·exact ei (sep := []) (ds := (t.2.1.map fun c => V.int c.toNat).map fun d => .str [oneOf d]) (bs := t.2.1.map fun c => [c.toNat]) (by rw [List.map_map, List.map_map]; rfl) o' (by decide) (by simp; exact Om.hi hw) (by have := ey (fun c => c) (eI t.2.1); unfold eI at this; rw [List.map_map] at this; rw [show (fun c : UInt8 => [c.toNat]) = (fun c => [c]) ∘ UInt8.toNat from rfl, this]; simp; exact Om.hi hw)
   ·refine ⟨?_, rfl⟩
    rw [flat_codes]
    unfold ad
    rw [ht]; dsimp only; rw [if_pos hk]
 ·refine az (c := decide (((ts.map tkV).length : Int) <= a) || false) ?_ ?_ ?_
  ·with_reducible refine bB (ca (by walk_at "pe") fun hc => ?_)
   exfalso; simp at hc; exact (Om.q 1 1 .f7) _ _ hl hc
  ·intro hc
   with_reducible apply ac
   ·walk_at "pe"
   ·refine ⟨?_, rfl⟩
    unfold ad
    rw [dR hl, S_e']
  ·intro hc
   exfalso; simp at hc; exact (Om.q 1 1 .f7) _ _ hl hc
theorem kQ (B : Base G) (o : X.Ok G) (hr : 1 <= X.room) {ts : List Tk} {a : Int} {c : List UInt8} (R : Rdr ts a) : PC G X (.glob "_law_is_sign") [.lst (ts.map tkV), .int a, .bytes c] σ (.bool (isSg ts a c)) := by
 have r1 := R.n
 have r2 := R.a0
 have r3 := R.a1
 have r4 : (ts.map tkV).length <= 10000 := by rw [List.length_map]; exact r1
 refine aq ["tokens", "at", "sign"] [] [("len", .val (.builtin "len"))] o (Om.lo hr) B.f_law_is_sign (by walk_at "dk") (.cons B.len .nil) rfl fun X' o' hmd hh hr' => ?_
 dsimp only [mkLoc, List.map]
 by_cases hl : a < ts.length
 ·obtain ⟨t, ht⟩ := ft r2 hl
  have hs := gt ht
  apply ac
  ·walk_at "pe"
  ·refine ⟨?_, rfl⟩
   congr 1
   unfold isSg
   rw [ht]
   simp [hl]
 ·refine ac (v := .bool false) ?_ ⟨?_, rfl⟩
  ·refine cf (d9 (c := false) (c' := true) (by
    have e : decide (a < ((ts.map tkV).length : Int)) = false := by simp; exact (Om.q 1 1 (.i (.n (.T .x0 (.c .x0))) (.L (.c .x0) .x0))) _ _ hl
    rw [<- e]; walk_at "pe") fun h => nomatch h)
  ·unfold isSg; rw [dR hl]
theorem gM (p : Nat -> Bool) (t : List Nat) : (((t.map fun c => V.str [c]).filter fun d => match d with | .str [c] => !(p c) | _ => false).map fun d => d).isEmpty = t.all p := by
 rw [List.map_id']
 induction t with
 | nil => rfl
 | cons c t ih =>
  rw [List.map_cons, List.filter_cons, List.all_cons]
  cases hp : p c with
  | true => simpa [hp] using ih
  | false => simp [hp]
noncomputable def digs : List Nat := [48, 49, 50, 51, 52, 53, 54, 55, 56, 57]
noncomputable def bH (t : List Nat) (lo hi : Int) : Bool := (decide (lo <= (t.length : Int)) && decide ((t.length : Int) <= hi)) && t.all digs.contains
theorem fB (B : Base G) (o : X.Ok G) (hh0 : X.A.handled = none) (hr : 1 <= X.room) {t : List Nat} {lo hi : Int} (hz : t.length <= 10000) : PC G X (.glob "_law_is_number") [.str t, .int lo, .int hi] σ (.bool (bH t lo hi)) := by
 refine aq ["text", "least_count", "most_count"] [] [("len", .val (.builtin "len"))] o (Om.lo hr) B.f_law_is_number (by walk_at "dk") (.cons B.len .nil) rfl fun X' o' hmd hh hr' => ?_
 dsimp only [mkLoc, List.map]
 refine ac (v := .bool ((decide (lo <= (t.length : Int)) && decide ((t.length : Int) <= hi)) && ((((t.map fun c => V.str [c]).filter fun d => match d with | .str [c] => !((S "0123456789").contains c) | _ => false).map fun d => d).isEmpty))) ?_ ?_
 ·with_reducible refine cf (d9 (by walk_at "pe") fun _ => dI ?_)
  with_reducible refine cS (by walk_at "u") (a := .lst _) (b := .lst []) ?_ (by walk_at "pe") (pq_eqn o')
  refine dJ [] (fun d => match d with | .str [c] => !((S "0123456789").contains c) | _ => false) (fun d => d) (d := .str t) o' hmd (hh.trans hh0) (by rfl) .nil (fun _ _ => rfl) (fun _ => by walk_at "u") (by walk_at "pe") rfl rfl (by simp; exact Om.hi hz) ?_ ?_
  ·intro d hd X2 o2 hm2 hh2 hr2
   obtain ⟨c, hc, rfl⟩ := List.mem_map.mp hd
   show PT _ _ _ _ (!((S "0123456789").contains c))
   walk_at "pe"
  ·intro d hd _ X2 o2 hm2 hh2 hr2
   walk_at "pe"
 ·refine ⟨?_, rfl⟩
  unfold bH
  rw [show S "0123456789" = digs from by decide +kernel]
  exact congrArg (fun b => Fl.ret (V.bool ((decide (lo <= (t.length : Int)) && decide ((t.length : Int) <= hi)) && b))) (gM digs.contains t)
end
theorem digs_in (c : Nat) : digs.contains c = (decide (48 <= c) && decide (c <= 57)) := by
 by_cases h : c < 58
 ·exact (show ∀ c < 58, digs.contains c = (decide (48 <= c) && decide (c <= 57)) by decide +kernel) c h
 ·rw [decide_eq_false (show ¬ c <= 57 by exact (Om.q 1 0 (.i (.n (.t .x0 (.k 58))) (.n (.l .x0 (.k 57))))) _ h), Bool.and_false, Bool.eq_false_iff]
  intro hm
  exact h ((show ∀ x ∈ digs, x < 58 by decide +kernel) c (List.contains_iff_mem.mp hm))
theorem cU {t : List Nat} {lo hi : Int} (h : 1 <= lo) : bH t lo hi = (bE t && (decide (lo <= (t.length : Int)) && decide ((t.length : Int) <= hi))) := by
 unfold bH bE
 have : t.all digs.contains = t.all fun c => decide (48 <= c) && decide (c <= 57) := by
  congr 1; funext c; exact digs_in c
 rw [this]
 cases t with
 | nil => simp; exact (Om.q 0 2 (.i (.L .k1 .x1) (.i (.L .x1 .k0) (.T .x0 .k0)))) _ _ h
 | cons c t =>
  simp only [ne_eq, reduceCtorEq, not_false_eq_true, decide_true, Bool.true_and]
  rw [Bool.and_comm]
noncomputable def dl (k : List Nat) : Bool := k.all fun c => decide (97 <= c) && decide (c <= 122)
noncomputable def loOk (c : Nat) : Bool := match Unicode.lowerOf c with
 | [x] => if 97 <= x /\ x <= 122 then lc c == x else !(decide (97 <= lc c) && decide (lc c <= 122))
 | _ => false
noncomputable def upOk (c : Nat) : Bool := match Unicode.upperOf c with
 | [x] => if 65 <= x /\ x <= 90 then lc c == x + 32 else !(decide (97 <= lc c) && decide (lc c <= 122))
 | [_, y] => !(decide (97 <= y) && decide (y <= 122)) && !(decide (97 <= lc c) && decide (lc c <= 122))
 | _ => false
theorem loOk_all : ∀ c, c < 256 -> loOk c = true := by decide +kernel
theorem upOk_all : ∀ c, c < 256 -> upOk c = true := by decide +kernel
set_option tactic.hygienic true in
theorem low_iff : ∀ {t k : List Nat}, (∀ c ∈ t, c < 256) -> dl k = true -> (lowL t = k ↔ lowT t = k)
 | [], k, _, _ => Iff.rfl
 | c :: t, k, h, hk => by
  have h1 := loOk_all c (h c (.head _))
  have e1 : lowL (c :: t) = Unicode.lowerOf c ++ lowL t := by simp [lowL]
  have e2 : lowT (c :: t) = lc c :: lowT t := rfl
  rw [e1, e2]
  unfold loOk at h1
  split at h1
  ·rename_i x hx
   rw [hx]
   cases k with
   | nil => simp
   | cons y k =>
    unfold dl at hk
    simp only [List.all_cons, Bool.and_eq_true, decide_eq_true_eq] at hk
    have ih := low_iff (t := t) (k := k) (fun c hc => h c (.tail _ hc)) (by unfold dl; exact hk.2)
    simp only [List.cons_append, List.nil_append, List.cons.injEq]
    rw [ih]
    refine and_congr_left fun _ => ?_
    split at h1
    ·rw [eq_of_beq h1]
    ·simp at h1
     constructor
     ·intro e; subst e; exact absurd hk.1.1 (by omega)
     ·intro e; subst e; exact absurd hk.1.1 (by omega)
  ·injection h1
theorem jV {L : List (List Nat)} {a b : List Nat} (h : ∀ k ∈ L, a = k ↔ b = k) : L.contains a = L.contains b := by
 rw [Bool.eq_iff_iff, List.contains_iff_mem, List.contains_iff_mem]
 exact ⟨fun m => (h a m).mp rfl ▸ m, fun m => (h b m).mpr rfl ▸ m⟩
theorem low7_low : ∀ k ∈ low7, dl k = true := by decide +kernel
theorem day_in {t : List Nat} (h : ∀ c ∈ t, c < 256) : low7.contains (lowL t) = low7.contains (lowT t) := jV fun k hk => low_iff h (low7_low k hk)
noncomputable def bO (t : List Nat) : List Nat := uppL (t.take 1) ++ lowL (t.drop 1)
set_option tactic.hygienic true in
theorem mon_iff {t : List Nat} {N n1 : Nat} {ns : List Nat} (h : ∀ c ∈ t, c < 256) (hN : 65 <= N /\ N <= 90) (hn : dl (n1 :: ns) = true) : bO t = N :: n1 :: ns ↔ lowT t = (N + 32) :: n1 :: ns := by
 cases t with
 | nil => simp [bO, lowT, uppL, lowL]
 | cons c r =>
  have h1 := upOk_all c (h c (.head _))
  have e1 : bO (c :: r) = Unicode.upperOf c ++ lowL r := by simp [bO, uppL]
  have e2 : lowT (c :: r) = lc c :: lowT r := rfl
  have ih := low_iff (t := r) (k := n1 :: ns) (fun c hc => h c (.tail _ hc)) hn
  rw [e1, e2]
  unfold dl at hn
  simp only [List.all_cons, Bool.and_eq_true, decide_eq_true_eq] at hn
  unfold upOk at h1
  split at h1
  ·rename_i x hx
   rw [hx]
   simp only [List.cons_append, List.nil_append, List.cons.injEq]
   rw [show (lowT r = n1 :: ns) = (lowL r = n1 :: ns) from propext ih.symm]
   refine and_congr_left fun _ => ?_
   split at h1
   ·rw [eq_of_beq h1]; omega
   ·simp at h1
    constructor
    ·intro e; subst e; exact (Om.q 2 0 (.i (.n (.a (.l (.k 65) .x1) (.l .x1 (.k 90)))) (.i (.o (.t .x0 (.k 97)) (.t (.k 122) .x0)) (.i (.a (.l (.k 65) .x1) (.l .x1 (.k 90))) (.e .x0 (.a .x1 (.k 32))))))) _ _ (by assumption) h1 hN
    ·intro e; exact (Om.q 3 0 (.i (.a (.l (.k 65) .x2) (.l .x2 (.k 90))) (.i (.o (.t .x1 (.k 97)) (.t (.k 122) .x1)) (.i (.e .x1 (.a .x2 (.k 32))) (.e .x0 .x2))))) _ _ _ hN h1 e
  ·rename_i x y hx
   rw [hx]
   simp at h1
   constructor
   ·intro e; simp at e; omega
   ·intro e; simp at e; omega
  ·injection h1
noncomputable def monPart (i : Nat) : Bool := match names12[i]? with
 | some (N :: n1 :: ns) => (decide (65 <= N) && decide (N <= 90)) && (dl (n1 :: ns) && decide (low12[i]? = some ((N + 32) :: n1 :: ns)))
 | _ => false
set_option tactic.hygienic true in
theorem fT {t : List Nat} (h : ∀ c ∈ t, c < 256) : ∀ i < 12, (names12[i]? = some (bO t) ↔ low12[i]? = some (lowT t)) := by
 intro i hi
 have := (show ∀ i < 12, monPart i = true by decide +kernel) i hi
 unfold monPart at this
 split at this
 ·rename_i N n1 ns e
  simp only [Bool.and_eq_true, decide_eq_true_eq] at this
  obtain ⟨a, b, c⟩ := this
  rw [e, c, Option.some.injEq, Option.some.injEq, eq_comm, mon_iff h a b, eq_comm]
 ·injection this
theorem len12 : names12.length = 12 /\ low12.length = 12 := by decide
theorem mon_in {t : List Nat} (h : ∀ c ∈ t, c < 256) : names12.contains (bO t) = decide (aC t ≠ 0) := by
 have e : names12.contains (bO t) = low12.contains (lowT t) := by
  rw [Bool.eq_iff_iff, List.contains_iff_mem, List.contains_iff_mem, List.mem_iff_getElem?, List.mem_iff_getElem?]
  constructor
  ·rintro ⟨i, hi⟩
   have := (List.getElem?_eq_some_iff.mp hi).1
   exact ⟨i, (fT h i (by rw [len12.1] at this; exact this)).mp hi⟩
  ·rintro ⟨i, hi⟩
   have := (List.getElem?_eq_some_iff.mp hi).1
   exact ⟨i, (fT h i (by rw [len12.2] at this; exact this)).mpr hi⟩
 rw [e]
 unfold aC
 cases low12.contains (lowT t) <;> simp
theorem mon_at {t : List Nat} (h : ∀ c ∈ t, c < 256) (hm : aC t ≠ 0) : names12[aC t - 1]? = some (bO t) /\ (∀ i, i < aC t - 1 -> names12[i]? ≠ some (bO t)) /\ aC t <= 12 := by
 unfold aC at hm ⊢
 cases hc : low12.contains (lowT t) with
 | false => rw [hc] at hm; simp at hm
 | true =>
  simp only [if_true, Nat.add_sub_cancel]
  have hmem := List.contains_iff_mem.mp hc
  have hlt := List.idxOf_lt_length_of_mem hmem
  have h12 : low12.idxOf (lowT t) < 12 := by rw [len12.2] at hlt; exact hlt
  refine ⟨(fT h _ h12).mpr ?_, fun i hi e => ?_, by exact (Om.q 1 0 (.i (.t .x0 (.k 12)) (.l (.a .x0 .k1) (.k 12)))) _ h12⟩
  ·rw [List.getElem?_eq_getElem hlt, List.getElem_idxOf hlt]
  ·have := (fT h i ((Om.q 2 0 (.i (.t .x1 (.k 12)) (.i (.t .x0 .x1) (.t .x0 (.k 12))))) _ _ h12 hi)).mp e
   obtain ⟨h1, h2⟩ := List.getElem?_eq_some_iff.mp this
   have := List.not_of_lt_findIdx (p := (· == lowT t)) (xs := low12) (i := i) (by exact hi)
   simp [h2] at this
theorem lq (k : List Nat) : (bG k zones13).getD 0 = (bG k zoneTab).getD 0 * 60 := by
 by_cases h0 : S "est" = k
 ·subst h0; decide +kernel
 by_cases h1 : S "edt" = k
 ·subst h1; decide +kernel
 by_cases h2 : S "cst" = k
 ·subst h2; decide +kernel
 by_cases h3 : S "cdt" = k
 ·subst h3; decide +kernel
 by_cases h4 : S "mst" = k
 ·subst h4; decide +kernel
 by_cases h5 : S "mdt" = k
 ·subst h5; decide +kernel
 by_cases h6 : S "pst" = k
 ·subst h6; decide +kernel
 by_cases h7 : S "pdt" = k
 ·subst h7; decide +kernel
 unfold zones13 zoneTab
 simp only [bG, if_neg h0, if_neg h1, if_neg h2, if_neg h3, if_neg h4, if_neg h5, if_neg h6, if_neg h7]
 repeat (split; · rfl)
 rfl
noncomputable def letters : List Nat := S "abcdefghijklmnopqrstuvwxyzABCDEFGHIJKLMNOPQRSTUVWXYZ"
theorem kZ (c : Nat) : letters.contains c = (decide (97 <= lc c) && decide (lc c <= 122)) := by
 by_cases h : c < 123
 ·exact (show ∀ c < 123, letters.contains c = (decide (97 <= lc c) && decide (lc c <= 122)) by decide +kernel) c h
 ·have e : lc c = c := by unfold lc; rw [if_neg (by exact (Om.q 1 0 (.i (.n (.t .x0 (.k 123))) (.n (.a (.l (.k 65) .x0) (.l .x0 (.k 90)))))) _ h)]
  rw [e, decide_eq_false (show ¬ c <= 122 by exact (Om.q 2 0 (.i (.n (.t .x1 (.k 123))) (.i (.e .x0 .x1) (.n (.l .x1 (.k 122)))))) _ _ h e), Bool.and_false, Bool.eq_false_iff]
  intro hm
  exact h ((show ∀ x ∈ letters, x < 123 by decide +kernel) c (List.contains_iff_mem.mp hm))
theorem kl (t : List Nat) : t.all letters.contains = eH t := by
 unfold eH lowT
 rw [List.all_map]
 congr 1; funext c; exact kZ c
theorem low_low {t : List Nat} (h : ∀ c ∈ t, c < 256) (hl : eH t = true) : lowL t = lowT t := (low_iff h hl).mpr rfl
theorem named_law {t : List Nat} (h : ∀ c ∈ t, c < 256) : bz t = if t = [] \/ t.all letters.contains = false then none else some ((bG (lowL t) zones13).getD 0) := by
 unfold bz
 rw [kl]
 by_cases hc : t = [] \/ eH t = false
 ·rw [if_pos hc, if_pos hc]
 ·rw [if_neg hc, if_neg hc, lq]
  have : eH t = true := by
   cases e : eH t with
   | true => rfl
   | false => exact absurd (.inr e) hc
  rw [low_low h this]
local macro_rules | `(tactic| walk_at "own") => `(tactic| (first | apply kR | apply kQ | apply fB | apply p_length) <;> walk_at "sd")
noncomputable def thirdV : V -> V
 | .tup [_, _, p] => p
 | d => d
theorem kO {ts : List Tk} {n a : Int} (h0 : 0 <= a) (h1 : a <= ts.length) : ((ts.map tkV).map thirdV ++ [.int n])[a.toNat]? = some (.int (al ts a n)) := by
 unfold al
 by_cases h : a < ts.length
 ·obtain ⟨t, ht⟩ := ft h0 h
  rw [List.getElem?_append_left (by simp; exact (Om.q 2 1 .f1) _ _ _ h0 h (Om.tno _)), List.getElem?_map, List.getElem?_map, ht]
  rfl
 ·rw [List.getElem?_append_right (by simp; exact (Om.q 2 1 (.i (.L .k0 .x0) (.i (.L .x0 (.c .x1)) (.i (.n (.T .x0 (.c .x1))) (.i (.o (.a (.L .k0 .x0) (.E (.c .x0) .x0)) (.a (.T .x0 .k0) (.e .x0 .k0))) (.l .x1 .x0)))))) _ _ _ h0 h1 h (Om.tno _)), dR h]
  have : a.toNat - ((ts.map tkV).map thirdV).length = 0 := by simp; exact (Om.q 3 1 (.i (.L .k0 .x0) (.i (.L .x0 (.c .x2)) (.i (.n (.T .x0 (.c .x2))) (.i (.o (.a (.L .k0 .x0) (.E (.c .x0) .x0)) (.a (.T .x0 .k0) (.e .x0 .k0))) (.i (.o (.a (.l .x2 .x0) (.e (.a .x1 .x2) .x0)) (.a (.t .x0 .x2) (.e .x1 .k0))) (.e .x1 .k0))))))) _ (Nat.sub _ _) (Int.toNat _) _ h0 h1 h ((Om.tno _)) ((Om.sbo _ _))
  rw [this]; rfl
theorem cZ {ts : List Tk} {a : Int} (h0 : 0 <= a) (h : ad ts a ≠ []) : a < ts.length := by
 by_cases hl : a < ts.length
 ·exact hl
 ·exfalso; apply h; unfold ad; rw [dR hl]
theorem sg_in {ts : List Tk} {a : Int} {c : List UInt8} (h : isSg ts a c = true) : a < ts.length := by
 by_cases hl : a < ts.length
 ·exact hl
 ·unfold isSg at h; rw [dR hl] at h; injection h
theorem ii {t : List Nat} {lo hi : Int} (h1 : 1 <= lo) (h : bH t lo hi = true) : AllDigits t /\ t ≠ [] /\ (t.length : Int) <= hi /\ lo <= t.length := by
 rw [cU h1] at h
 simp only [Bool.and_eq_true, decide_eq_true_eq] at h
 exact ⟨(aZ h.1).1, (aZ h.1).2, h.2.2, h.2.1⟩
theorem cj {ts : List Tk} {a n lo hi : Int} (h : 1 <= lo) : numR ts a n lo hi = if bH (ad ts a) lo hi = true then .ok (digitsVal (ad ts a), (ad ts a).length) else .error (al ts a n) := by
 unfold numR; rw [cU h]
theorem dateR_A (ts : List Tk) (n : Int) : iM ts n = dz ts n (begA ts) := rfl
theorem begA_in {ts : List Tk} : 0 <= begA ts /\ begA ts <= ts.length := by
 unfold begA
 split
 ·rename_i h
  have h1 : (0 : Int) < ts.length := cZ (by decide) (fun e => by rw [e] at h; exact absurd h (by decide +kernel))
  split
  ·rename_i h2
   have := sg_in h2
   exact (Om.q 1 0 (.i (.T .k1 (.c .x0)) (.a (.L .k0 (.k 2)) (.L (.k 2) (.c .x0))))) _ this
  ·exact (Om.q 1 0 (.i (.T .k0 (.c .x0)) (.a (.L .k0 .k1) (.L .k1 (.c .x0))))) _ h1
 ·exact (Om.q 1 0 (.a (.L .k0 .k0) (.L .k0 (.c .x0)))) _
theorem dvG : ∀ {t : List Nat}, AllDigits t -> ∀ {a k : Nat}, a < 10 ^ k -> t.foldl (fun a c => a * 10 + (c - 48)) a < 10 ^ (k + t.length)
 | [], _, a, k, h => h
 | c :: t, hd, a, k, h => by
  have hc := hd c (.head _)
  have e : k + (t.length + 1) = k + 1 + t.length := by rw [Nat.add_comm t.length, Nat.add_assoc]
  have g := dvG (t := t) (fun x hx => hd x (.tail _ hx)) (a := a * 10 + (c - 48)) (k := k + 1) (by rw [Nat.pow_succ]; generalize 10 ^ k = m at h; exact (Om.q 6 0 (.i (.a (.l (.k 48) .x5) (.l .x5 (.k 57))) (.i (.t .x4 .x3) (.i (.e .x2 (.m 10 .x4)) (.i (.o (.a (.l (.k 48) .x5) (.e (.a .x1 (.k 48)) .x5)) (.a (.t .x5 (.k 48)) (.e .x1 .k0))) (.i (.e .x0 (.m 10 .x3)) (.t (.a .x2 .x1) .x0))))))) _ _ _ _ _ _ hc h (Nat.mul_comm _ _) (Om.sbo _ _) (Nat.mul_comm _ _))
  rw [<- e] at g
  exact g
theorem dv4 {t : List Nat} (h : AllDigits t) (h2 : t.length <= 4) : digitsVal t < 10 ^ t.length := by
 have := dvG h (a := 0) (k := 0) (by decide)
 rwa [Nat.zero_add] at this
theorem year_top {t : List Nat} (h : AllDigits t) (h1 : 2 <= t.length) (h2 : t.length <= 4) : 0 <= aD (digitsVal t) t.length /\ aD (digitsVal t) t.length <= 9999 := by
 have h3 := dv4 h h2
 have : t.length = 2 \/ t.length = 3 \/ t.length = 4 := by exact (Om.q 1 0 (.i (.l (.k 2) .x0) (.i (.l .x0 (.k 4)) (.o (.e .x0 (.k 2)) (.o (.e .x0 (.k 3)) (.e .x0 (.k 4))))))) _ h1 h2
 unfold aD
 rcases this with e | e | e <;> rw [e] at h3 ⊢ <;> simp at h3 ⊢
 ·split <;> (first | exact (Om.q 1 0 (.i (.t .x0 (.k 100)) (.i (.T (.c .x0) (.k 50)) (.a (.L .k0 (.a (.c .x0) (.k 2000))) (.L (.a (.c .x0) (.k 2000)) (.k 9999)))))) _ h3 (by assumption) | exact (Om.q 1 0 (.i (.t .x0 (.k 100)) (.i (.n (.T (.c .x0) (.k 50))) (.a (.L .k0 (.a (.c .x0) (.k 1900))) (.L (.a (.c .x0) (.k 1900)) (.k 9999)))))) _ h3 (by assumption))
 ·exact (Om.q 1 0 (.i (.t .x0 (.k 1000)) (.a (.L .k0 (.a (.c .x0) (.k 1900))) (.L (.a (.c .x0) (.k 1900)) (.k 9999))))) _ h3
 ·exact (Om.q 1 0 (.i (.t .x0 (.k 10000)) (.L (.c .x0) (.k 9999)))) _ h3
theorem is_day {y m d : Int} (h1 : 1 <= m) (h2 : m <= 12) (h3 : y <= 9999) : (decide (y < 1) || !(decide (1 <= d) && decide (d <= aB y m))) = !ew y m d := by
 unfold ew
 rw [decide_eq_true h1, decide_eq_true h2, decide_eq_true h3]
 by_cases h : y < 1
 ·have : ¬ 1 <= y := by exact (Om.q 0 1 (.i (.T .x0 .k1) (.n (.L .k1 .x0)))) _ h
  simp [h, this]
 ·have : 1 <= y := by exact (Om.q 0 1 (.i (.L .x0 (.k 9999)) (.i (.n (.T .x0 .k1)) (.L .k1 .x0)))) _ h3 h
  simp [h, this]
noncomputable def lawV : Except Int Mom -> V
 | .error p => .tup [.none, .int p]
 | .ok m => .tup [.tup (momT m), .int (-1)]
section
variable {G : Gx} {X : Fx} {σ τ : St} {Ψ : Ps} {Φ : V -> St -> Prop} {ΦF : Fl -> St -> Prop}
noncomputable abbrev lrG : List (Str × V) := [("_law_atom", .glob "_law_atom"), ("_law_is_sign", .glob "_law_is_sign"), ("_law_is_number", .glob "_law_is_number"), ("int", .val (.type "int")), ("_law_months", .tup (names12.map .str)), ("len", .val (.builtin "len")), ("_law_length", .glob "_law_length"), ("range", .val (.type "range")), ("_law_zones", .glob "_law_zones")]
theorem ss_ifQ {t : Expr} {b e : List Stmt} {pos : Pos} {ts : List Stmt} {c : Bool} (P : St -> Prop) (p : PT G X t σ c) (h1 : c = true -> SSX G X b (fun f σ1 => match f with | .next => P σ1 | f => ΦF f σ1) Ψ σ) (h2 : c = false -> SSX G X e (fun f σ1 => match f with | .next => P σ1 | f => ΦF f σ1) Ψ σ) (k : ∀ τ, P τ -> SSX G X ts ΦF Ψ τ) : SSX G X (.If t b e pos :: ts) ΦF Ψ σ := by
 refine az p (fun hc => bk (h1 hc) fun f σ1 h => ?_) (fun hc => bk (h2 hc) fun f σ1 h => ?_) <;> cases f <;> first | exact k _ h | exact h
noncomputable def gH (ts : List Tk) (n a Y M D : Int) : Except Int Mom :=
 match aW ts a n with
 | .error e => .error e
 | .ok ((h, m, s), a4) =>
  if cn h m s = false then .error (al ts a n) else
  match bv (ad ts a4) with
  | none => .error (al ts a4 n)
  | some z => if a4 + 1 < ts.length then .error (al ts (a4 + 1) n) else .ok ⟨Y, M, D, h, m, s, z⟩
theorem is_time {h m s : Int} (h1 : 0 <= h) (h2 : 0 <= m) (h3 : 0 <= s) : (decide (23 < h) || (decide (59 < m) || decide (60 < s))) = !cn h m s := by
 unfold cn
 rw [decide_eq_true h1, decide_eq_true h2, decide_eq_true h3, Bool.eq_iff_iff]
 simp
noncomputable abbrev lrL (ts : List Tk) (n : Int) (P : List V) (a : Int) (bg dy nm yt yr mo nu tu tx zo : Option V) : List (Str × Option V) := [("tokens", some (.lst (ts.map tkV))), ("length", some (.int n)), ("places", some (.lst P)), ("at", some (.int a)), ("begun", bg), ("day", dy), ("name", nm), ("year_text", yt), ("year", yr), ("month", mo), ("numbers", nu), ("turn", tu), ("text", tx), ("zone", zo)]
theorem pos_num {t : List Nat} : bH t 4 4 = true -> t.length = 4 /\ bE t = true := fun h => by
 rw [cU (by decide)] at h
 simp at h
 exact ⟨by omega, h.1⟩
noncomputable def T1 (t : List Nat) : Bool := match t with
 | [a, b, c, d, e] => (S "+-").contains a && (bH [b, c, d, e] 4 4 && decide ((digitsVal [d, e] : Int) < 60))
 | _ => false
theorem T1_5 {a b c d e : Nat} : T1 [a, b, c, d, e] = ((S "+-").contains a && (bH [b, c, d, e] 4 4 && decide ((digitsVal [d, e] : Int) < 60))) := rfl
theorem T1_no {t : List Nat} (h : t.length ≠ 5) : T1 t = false := by
 unfold T1
 split
 ·exact absurd rfl h
 ·rfl
theorem T1_zone {t : List Nat} (h : T1 t = false) : b7 t = none := by
 by_cases h5 : t.length = 5
 ·obtain ⟨a, b, c, d, e, rfl⟩ := len5 h5
  rw [eS]
  rw [T1_5, Spm, cU (by decide)] at h
  cases h1 : [43, 45].contains a
  ·rfl
  ·cases h2 : bE [b, c, d, e]
   ·rfl
   ·rw [h1, h2] at h
    have h3 : ¬ digitsVal [d, e] <= 59 := by simp at h; exact (Om.q 1 0 (.i (.L (.k 60) (.c .x0)) (.n (.l .x0 (.k 59))))) _ h
    simp [h3]
 ·exact gV h5
theorem T1_yes {a b c d e : Nat} (h : T1 [a, b, c, d, e] = true) : b7 [a, b, c, d, e] = some ((60 * (digitsVal [b, c] : Int) + digitsVal [d, e]) * (if decide ([a] = S "-") = true then -1 else 1)) /\ AllDigits [b, c, d, e] := by
 rw [T1_5, Spm, cU (by decide)] at h
 simp only [Bool.and_eq_true, decide_eq_true_eq] at h
 refine ⟨?_, (aZ h.2.1.1).1⟩
 rw [eS, h.1, h.2.1.1, decide_eq_true (show digitsVal [d, e] <= 59 by omega)]
 simp only [Bool.and_self, if_true, Sm, List.cons.injEq, and_true, decide_eq_true_eq]
 congr 1
 split <;> omega
theorem kB {t : List Nat} {z : Int} (h : b7 t = some z) : bv t = some z := by unfold bv; rw [h]
theorem zoneOf_no {t : List Nat} (h : b7 t = none) : bv t = bz t := by unfold bv; rw [h]
theorem jt (B : Base G) (o : X.Ok G) (hf : X.md = .fr) (hh0 : X.A.handled = none) (hr : 2 <= X.room) {ts : List Tk} {n a a4 : Int} {P : List V} {Y M D n0 n1 n2 : Int} {nm yt tu : Option V} {L : List V} {H : List (Option MO)} (R : Rdr ts a4)
  (hplace : ∀ a : Int, 0 <= a -> a <= ts.length -> P[a.toNat]? = some (.int (al ts a n))) (hlt : P.length <= 10001) (b0 : 0 <= a4) (b1 : a4 <= ts.length) (hL : L.length <= 3) (l0 : L[0]? = some (.int n0)) (l1 : L[1]? = some (.int n1)) (l2 : (L ++ [V.int 0])[2]? = some (.int n2)) (p0 : 0 <= n0) (p1 : 0 <= n1) (p2 : 0 <= n2)
  (hc : aW ts a n = .ok ((n0, n1, n2), a4)) (hΦ : ∀ v σ', v = lawV (gH ts n a Y M D) -> σ'.heap.take H.length = H -> ΦF (.ret v) σ') :
  SSX G X ((dfAt 64).body.drop 18) ΦF Ψ ⟨lrL ts n P a4 (some (.int (al ts a n))) (some (.int D)) nm yt (some (.int Y)) (some (.int M)) (some (.loc H.length)) tu none none, lrG, H ++ [some (.list L)]⟩ := by
 have r1 := R.n
 have r4 : (ts.map tkV).length <= 10000 := by rw [List.length_map]; exact r1
 have hi : (H ++ [some (.list L)])[H.length]? = some (some (MO.list L)) := aM
 unfold gH at hΦ
 rw [hc] at hΦ
 dsimp only at hΦ
 refine az (c := !cn n0 n1 n2) ?_ (fun ht => ?_) (fun ht => aa ?_)
 ·rw [<- is_time p0 p1 p2]
  refine bB (ca (bw (by walk_at "u") (ar (by walk_at "pe") aj (cb hi (by decide) (by decide) l0)) aj pq_gt) fun _ => ca (bw (by walk_at "u") (ar (by walk_at "pe") aj (cb hi (by decide) (by decide) l1)) aj pq_gt) fun _ => eY (bw (by walk_at "u") (ar (ai (by walk_at "pe") (by walk_at "pe") (ig o hi (by simp; exact Om.hi hL))) aj (pg_l o (by decide) (by decide) l2)) aj pq_gt))
 ·have ht : cn n0 n1 n2 = false := by simpa using ht
  with_reducible refine ac (v := .tup [.none, .int (al ts a n)]) (by walk_at "pe") (hΦ _ _ ?_ (by simp))
  rw [if_pos ht]; rfl
 have ht : ¬ cn n0 n1 n2 = false := by simpa using ht
 rw [if_neg ht] at hΦ
 show SSX _ _ _ _ _ _
 refine ax (d := .str (ad ts a4)) o hf (by rfl) (by walk_at "pe") (by walk_at "h") ?_
 obtain ⟨z, c256⟩ := bF R
 have q0 := hplace a4 b0 b1
 have i4 : bv (ad ts a4) ≠ none -> a4 < ts.length := fun h => cZ b0 fun e => h (by rw [e]; decide +kernel)
 revert hΦ z c256 i4
 obtain ⟨t, ht⟩ : ∃ y, ad ts a4 = y := ⟨_, rfl⟩
 rw [ht]
 intro hΦ z c256 i4
 have z' : t.length <= 1000000 := by exact Om.hi z
 with_reducible refine ss_ifQ (fun τ => ∃ zz, bv t = some zz /\ τ = ⟨lrL ts n P a4 (some (.int (al ts a n))) (some (.int D)) nm yt (some (.int Y)) (some (.int M)) (some (.loc H.length)) tu (some (.str t)) (some (.int zz)), lrG, H ++ [some (.list L)]⟩) (c := T1 t) ?_ (fun h1 => ?_) (fun h1 => ?_) ?_
 ·by_cases h5 : t.length = 5
  ·obtain ⟨a, b, c, d, e, rfl⟩ := len5 h5
   have eT : T1 [a, b, c, d, e] = (decide ((([a, b, c, d, e] : List Nat).length : Int) = 5) && ((S "+-").contains a && (bH [b, c, d, e] 4 4 && decide ((digitsVal [d, e] : Int) < 60)))) := by rw [T1_5]; simp
   rw [eT]
   with_reducible refine bB (dY (by walk_at "pe") fun _ => dY (bw (by walk_at "u") (ar (by walk_at "pe") aj (pg_s (by decide) (by simp) rfl)) (by walk_at "pe") (pq_ins rfl)) fun _ => dY ?_ fun h3 => gv ?_)
   ·with_reducible apply jm (by walk_at "u")
    ·with_reducible apply bu (by assumption) (by walk_at "u")
     ·walk_at "pe"
     ·rfl
     ·with_reducible apply ah (by walk_at "u")
      ·with_reducible apply ce
       ·walk_at "pe"
       ·with_reducible exact aj
       ·exact hV (by simp) (by decide)
      ·walk_at "pe"
     ·exact fB (t := [b, c, d, e]) B o hh0 (Om.lo hr) (by simp)
    ·exact pr_bool
   ·have hf := aZ (pos_num h3).2
    with_reducible apply bw (by walk_at "u")
    ·with_reducible apply bu (by assumption) (by walk_at "u")
     ·walk_at "pe"
     ·rfl
     ·with_reducible apply ah (by walk_at "u")
      ·with_reducible apply ce
       ·walk_at "pe"
       ·with_reducible exact aj
       ·exact hV (by simp) (by decide)
      ·with_reducible exact pa_nil
     ·exact ej (b := [d, e]) hf.1.tail.tail (by simp) (by simp)
    ·with_reducible exact aj
    ·with_reducible exact pq_lt
  ·rw [show T1 t = (decide ((t.length : Int) = 5) && false) by rw [T1_no h5, Bool.and_false]]
   with_reducible refine bB (dY (by walk_at "pe") fun hc => ?_)
   exfalso
   have := of_decide_eq_true hc
   exact (Om.q 1 0 .f60) _ h5 this
 ·obtain ⟨a, b, c, d, e, rfl⟩ : ∃ a b c d e, t = [a, b, c, d, e] := len5 (by
   by_cases h5 : t.length = 5
   ·exact h5
   ·rw [T1_no h5] at h1; injection h1)
  obtain ⟨y1, y2⟩ := T1_yes h1
  have hbc : AllDigits [b, c] := fun x hx => y2 x (by simp at hx ⊢; rcases hx with h | h <;> simp [h])
  refine ax (d := .int ((60 * (digitsVal [b, c] : Int) + digitsVal [d, e]) * (if decide ([a] = S "-") = true then -1 else 1))) o hf (by rfl) ?_ (by walk_at "h") (aa ⟨_, kB y1, rfl⟩)
  refine ai (a := .int (60 * (digitsVal [b, c] : Int) + digitsVal [d, e])) (b := .int (if decide ([a] = S "-") = true then -1 else 1)) ?_ ?_ (gB (by split <;> decide) (by split <;> decide))
  ·with_reducible refine ai (a := .int (60 * (digitsVal [b, c] : Int))) (b := .int (digitsVal [d, e])) ?_ ?_ fA
   ·with_reducible refine ai (a := .int 60) (b := .int (digitsVal [b, c])) aj ?_ (pb_mul' (by decide) (by decide))
    with_reducible apply bu (by assumption) (by walk_at "u")
    ·walk_at "pe"
    ·rfl
    ·with_reducible apply ah (by walk_at "u")
     ·with_reducible exact hZ (by walk_at "pe") aj aj (ps_s2 (by simp) (by decide) (by decide) (by simp))
     ·with_reducible exact pa_nil
    ·exact ej (b := [b, c]) hbc (by simp) (by simp)
   ·with_reducible apply bu (by assumption) (by walk_at "u")
    ·walk_at "pe"
    ·rfl
    ·with_reducible apply ah (by walk_at "u")
     ·with_reducible apply ce
      ·walk_at "pe"
      ·with_reducible exact aj
      ·exact hV (by simp) (by decide)
     ·with_reducible exact pa_nil
    ·exact ej (b := [d, e]) y2.tail.tail (by simp) (by simp)
  ·with_reducible refine gy (bw (by walk_at "u") (ar (by walk_at "pe") aj (pg_s (by decide) (by simp) rfl)) (by walk_at "pe") pq_eqs) ?_ ?_
   ·walk_at "pe"
   ·walk_at "pe"
 ·have hz := zoneOf_no (T1_zone h1)
  rw [named_law c256] at hz
  with_reducible refine az (c := decide (t ≠ S "") && t.all letters.contains) ?_ (fun h2 => ?_) (fun h2 => ?_)
  ·with_reducible refine bB (dY (by walk_at "pe") fun _ => gv ?_)
   rw [<- gM letters.contains t]
   with_reducible refine bw (by walk_at "u") (a := .lst _) (b := .lst []) ?_ (by walk_at "pe") (pq_eqn o)
   refine dJ [] (fun d => match d with | .str [c] => !(letters.contains c) | _ => false) (fun d => d) (d := .str t) o hf hh0 (by rfl) .nil (fun _ _ => rfl) (fun _ => by walk_at "u") (by walk_at "pe") rfl rfl (by simp; exact Om.hi z) ?_ ?_
   ·intro d hd X2 o2 hm2 hh2 hr2
    obtain ⟨c, hc, rfl⟩ := List.mem_map.mp hd
    show PT _ _ _ _ (!((S "abcdefghijklmnopqrstuvwxyzABCDEFGHIJKLMNOPQRSTUVWXYZ").contains c))
    walk_at "pe"
   ·intro d hd _ X2 o2 hm2 hh2 hr2
    walk_at "pe"
  ·simp only [Bool.and_eq_true, decide_eq_true_eq] at h2
   have hn : ¬ (t = [] \/ t.all letters.contains = false) := by
    rintro (h | h)
    ·exact h2.1 (by rw [h, S_e])
    ·rw [h2.2] at h; injection h
   rw [if_neg hn] at hz
   refine ax (d := .int ((bG (lowL t) zones13).getD 0)) o hf (by rfl) ?_ (by walk_at "h") (aa (aa ⟨_, hz, rfl⟩))
   with_reducible apply aI (by assumption) (by walk_at "u") ⟨_, fun _ => by walk_at "u"⟩
   ·walk_at "pe"
   ·exact gm_get o
   ·rfl
   ·walk_at "pe"
   ·exact pc_dget (l := zones13) o
  ·have hn : t = [] \/ t.all letters.contains = false := by
    rw [S_e] at h2
    simp only [Bool.and_eq_false_iff, decide_eq_false_iff_not, ne_eq, Decidable.not_not] at h2
    exact h2
   rw [if_pos hn] at hz
   with_reducible refine ac (v := .tup [.none, .int (al ts a4 n)]) (by walk_at "pe") (hΦ _ _ ?_ (by simp))
   rw [hz]; rfl
 ·rintro τ ⟨zz, hz, rfl⟩
  rw [hz] at hΦ
  dsimp only at hΦ
  have hlt4 := i4 (by rw [hz]; exact fun h => nomatch h)
  have q1 := hplace (a4 + 1) ((Om.q 0 1 .f0) _ b0) ((Om.q 1 1 .f5) _ _ hlt4)
  with_reducible refine az (c := decide (a4 + 1 < ((ts.map tkV).length : Int))) (by walk_at "pe") (fun h2 => ?_) (fun h2 => aa ?_)
  ·have h2 : a4 + 1 < ts.length := by simpa using h2
   with_reducible refine ac (v := .tup [.none, .int (al ts (a4 + 1) n)]) (by walk_at "pe") (hΦ _ _ ?_ (by simp))
   rw [if_pos h2]; rfl
  ·have h2 : ¬ a4 + 1 < ts.length := by simpa using h2
   with_reducible refine ac (v := .tup [.tup [.int Y, .int M, .int D, .int n0, .int n1, .int n2, .int zz], .int (-1)]) ?_ (hΦ _ _ ?_ (by simp))
   ·with_reducible refine bU (ah (by walk_at "u") (bU (ah (by walk_at "u") (by walk_at "pe") (ah (by walk_at "u") (by walk_at "pe") (ah (by walk_at "u") (by walk_at "pe") (ah (by walk_at "u") ?_ (ah (by walk_at "u") ?_ (ah (by walk_at "u") ?_ (ah (by walk_at "u") (by walk_at "pe") pa_nil))))))) (by simp)) (ah (by walk_at "u") (by walk_at "pe") pa_nil)) (by simp)
    ·exact ar (by walk_at "pe") aj (cb hi (by decide) (by decide) l0)
    ·exact ar (by walk_at "pe") aj (cb hi (by decide) (by decide) l1)
    ·with_reducible exact ar (ai (by walk_at "pe") (by walk_at "pe") (ig o hi (by simp; exact Om.hi hL))) aj (pg_l o (by decide) (by decide) l2)
   ·rw [if_neg h2]; rfl
end
noncomputable abbrev aN (ts : List Tk) (a : Int) : Bool := bH (ad ts a) 2 2
noncomputable abbrev dv (ts : List Tk) (a : Int) : Int := (digitsVal (ad ts a) : Int)
noncomputable def stg (ts : List Tk) (a : Int) : Nat -> List Int -> Int -> Prop
 | 0, ns, b => ns = [] /\ b = a
 | 1, ns, b => aN ts a = true /\ ns = [dv ts a] /\ b = a + 1
 | 2, ns, b => aN ts a = true /\ isSg ts (a + 1) [58] = true /\ aN ts (a + 2) = true /\ ns = [dv ts a, dv ts (a + 2)] /\ b = a + 3
 | _, ns, b => aN ts a = true /\ isSg ts (a + 1) [58] = true /\ aN ts (a + 2) = true /\ isSg ts (a + 3) [58] = true /\ aN ts (a + 4) = true /\ ns = [dv ts a, dv ts (a + 2), dv ts (a + 4)] /\ b = a + 5
theorem aN_in {ts : List Tk} {a : Int} (h0 : 0 <= a) (h : aN ts a = true) : a < ts.length := cZ h0 (ii (by decide) h).2.1
theorem stg_in {ts : List Tk} {a b : Int} {ns : List Int} {i : Nat} (hi : i <= 3) (h0 : 0 <= a) (h1 : a <= ts.length) (h : stg ts a i ns b) : 0 <= b /\ b <= ts.length /\ ns.length = i := by
 have : i = 0 \/ i = 1 \/ i = 2 \/ i = 3 := by exact (Om.q 1 0 (.i (.l .x0 (.k 3)) (.o (.e .x0 .k0) (.o (.e .x0 .k1) (.o (.e .x0 (.k 2)) (.e .x0 (.k 3))))))) _ hi
 rcases this with rfl | rfl | rfl | rfl
 ·obtain ⟨rfl, rfl⟩ := h; exact ⟨h0, h1, rfl⟩
 ·obtain ⟨q, rfl, rfl⟩ := h; have := aN_in h0 q; exact ⟨by exact (Om.q 0 1 .f0) _ h0, by exact (Om.q 1 1 .f5) _ _ this, rfl⟩
 ·obtain ⟨q, q2, q3, rfl, rfl⟩ := h; have := aN_in ((Om.q 0 1 .f22) _ h0) q3; exact ⟨by exact (Om.q 0 1 (.i (.L .k0 .x0) (.L .k0 (.a .x0 (.k 3))))) _ h0, by exact (Om.q 1 1 (.i (.T (.a .x0 (.k 2)) (.c .x0)) (.L (.a .x0 (.k 3)) (.c .x0)))) _ _ this, rfl⟩
 ·obtain ⟨q, q2, q3, q4, q5, rfl, rfl⟩ := h; have := aN_in ((Om.q 0 1 (.i (.L .k0 .x0) (.L .k0 (.a .x0 (.k 4))))) _ h0) q5; exact ⟨by exact (Om.q 0 1 (.i (.L .k0 .x0) (.L .k0 (.a .x0 (.k 5))))) _ h0, by exact (Om.q 1 1 (.i (.T (.a .x0 (.k 4)) (.c .x0)) (.L (.a .x0 (.k 5)) (.c .x0)))) _ _ this, rfl⟩
theorem clk (ts : List Tk) (a n : Int) : aW ts a n = if aN ts a = true then (if isSg ts (a + 1) [58] = false then .error (al ts (a + 1) n) else if aN ts (a + 2) = true then (if isSg ts (a + 3) [58] = true then (if aN ts (a + 4) = true then .ok ((dv ts a, dv ts (a + 2), dv ts (a + 4)), a + 5) else .error (al ts (a + 4) n)) else .ok ((dv ts a, dv ts (a + 2), 0), a + 3)) else .error (al ts (a + 2) n)) else .error (al ts a n) := by
 unfold aW
 rw [cj (by decide), cj (by decide), cj (by decide)]
 by_cases h1 : bH (ad ts a) 2 2 = true
 ·rw [if_pos h1, if_pos h1]
  dsimp only
  by_cases h2 : isSg ts (a + 1) [58] = false
  ·rw [if_pos h2, if_pos h2]
  ·rw [if_neg h2, if_neg h2]
   by_cases h3 : bH (ad ts (a + 2)) 2 2 = true
   ·rw [if_pos h3, if_pos h3]
    dsimp only
    by_cases h4 : isSg ts (a + 3) [58] = true
    ·rw [if_pos h4, if_pos h4]
     by_cases h5 : bH (ad ts (a + 4)) 2 2 = true
     ·rw [if_pos h5, if_pos h5]
     ·rw [if_neg h5, if_neg h5]
    ·rw [if_neg h4, if_neg h4]
   ·rw [if_neg h3, if_neg h3]
 ·rw [if_neg h1, if_neg h1]
theorem stg_nosg {ts : List Tk} {a b n : Int} {ns : List Int} (h : stg ts a 1 ns b) (hs : isSg ts b [58] = false) : aW ts a n = .error (al ts b n) := by
 obtain ⟨q, rfl, rfl⟩ := h
 rw [clk, if_pos q, if_pos hs]
theorem stg_brk {ts : List Tk} {a b n : Int} {ns : List Int} (h : stg ts a 2 ns b) (hs : isSg ts b [58] = false) : aW ts a n = .ok ((ns.getD 0 0, ns.getD 1 0, (ns ++ [0]).getD 2 0), b) := by
 obtain ⟨q, q2, q3, rfl, rfl⟩ := h
 rw [clk, if_pos q, if_neg (by rw [q2]; decide), if_pos q3, if_neg (by rw [hs]; decide)]
 rfl
theorem stg_end {ts : List Tk} {a b n : Int} {ns : List Int} (h : stg ts a 3 ns b) : aW ts a n = .ok ((ns.getD 0 0, ns.getD 1 0, (ns ++ [0]).getD 2 0), b) := by
 obtain ⟨q, q2, q3, q4, q5, rfl, rfl⟩ := h
 rw [clk, if_pos q, if_neg (by rw [q2]; decide), if_pos q3, if_pos q4, if_pos q5]
 rfl
theorem stg_nonum {ts : List Tk} {a b n : Int} {ns : List Int} {i : Nat} (hi : i < 3) (h : stg ts a i ns b) (hs : 0 < i -> isSg ts b [58] = true) (hn : aN ts (b + if 0 < i then 1 else 0) = false) : aW ts a n = .error (al ts (b + if 0 < i then 1 else 0) n) := by
 have : i = 0 \/ i = 1 \/ i = 2 := by exact (Om.q 1 0 .f88) _ hi
 rcases this with rfl | rfl | rfl
 ·obtain ⟨rfl, rfl⟩ := h
  simp at hn ⊢
  rw [clk, if_neg (by rw [hn]; decide)]
 ·obtain ⟨q, rfl, rfl⟩ := h
  have h2 := hs (by decide)
  simp [Int.add_assoc] at hn ⊢
  rw [clk, if_pos q, if_neg (by rw [h2]; decide), if_neg (by rw [hn]; decide)]
 ·obtain ⟨q, q2, q3, rfl, rfl⟩ := h
  have h2 := hs (by decide)
  simp [Int.add_assoc] at hn ⊢
  rw [clk, if_pos q, if_neg (by rw [q2]; decide), if_pos q3, if_pos h2, if_neg (by rw [hn]; decide)]
theorem stg_next {ts : List Tk} {a b : Int} {ns : List Int} {i : Nat} (hi : i < 3) (h : stg ts a i ns b) (hs : 0 < i -> isSg ts b [58] = true) (hn : aN ts (b + if 0 < i then 1 else 0) = true) : stg ts a (i + 1) (ns ++ [dv ts (b + if 0 < i then 1 else 0)]) ((b + if 0 < i then 1 else 0) + 1) := by
 have : i = 0 \/ i = 1 \/ i = 2 := by exact (Om.q 1 0 .f88) _ hi
 rcases this with rfl | rfl | rfl
 ·obtain ⟨rfl, rfl⟩ := h
  simp at hn ⊢
  exact ⟨hn, rfl, rfl⟩
 ·obtain ⟨q, rfl, rfl⟩ := h
  have h2 := hs (by decide)
  simp [Int.add_assoc] at hn ⊢
  exact ⟨q, h2, hn, rfl, rfl⟩
 ·obtain ⟨q, q2, q3, rfl, rfl⟩ := h
  have h2 := hs (by decide)
  simp [Int.add_assoc] at hn ⊢
  exact ⟨q, q2, q3, h2, hn, rfl, rfl⟩
section
variable {G : Gx} {X : Fx} {σ τ : St} {Ψ : Ps} {Φ : V -> St -> Prop} {ΦF : Fl -> St -> Prop}
inductive LrI (ts : List Tk) (n : Int) (P : List V) (a D : Int) (nm yt : Option V) (Y M : Int) (H : List (Option MO)) (i : Nat) (σ' : St) : Prop
 | mk (ns : List Int) (b : Int) (tv : Option V) (e : σ' = ⟨lrL ts n P b (some (.int (al ts a n))) (some (.int D)) nm yt (some (.int Y)) (some (.int M)) (some (.loc H.length)) tv none none, lrG, H ++ [some (.list (ns.map .int))]⟩) (h : stg ts a i ns b)
theorem lr_mid (B : Base G) (o : X.Ok G) (hf : X.md = .fr) (hh0 : X.A.handled = none) (hr : 2 <= X.room) {ts : List Tk} {n a0 : Int} {P : List V} {Y M D : Int} {nm yt bg : Option V} {H : List (Option MO)} (R : Rdr ts a0)
  (hplace : ∀ a : Int, 0 <= a -> a <= ts.length -> P[a.toNat]? = some (.int (al ts a n))) (hlt : P.length <= 10001) (b0 : 0 <= a0) (b1 : a0 + 2 < ts.length) (hΦ : ∀ v σ', v = lawV (gH ts n (a0 + 3) Y M D) -> σ'.heap.take H.length = H -> ΦF (.ret v) σ') :
  SSX G X ((dfAt 64).body.drop 14) ΦF Ψ ⟨lrL ts n P a0 bg (some (.int D)) nm yt (some (.int Y)) (some (.int M)) none none none none, lrG, H⟩ := by
 have r1 := R.n
 have r4 : (ts.map tkV).length <= 10000 := by rw [List.length_map]; exact r1
 refine ax (d := .int (a0 + 3)) o hf (by rfl) (by walk_at "pe") (by walk_at "h") ?_
 obtain ⟨a, ha⟩ : ∃ a, a = a0 + 3 := ⟨_, rfl⟩
 rw [<- ha] at hΦ ⊢
 have c0 : 0 <= a := by exact (Om.q 0 2 (.i (.L .k0 .x1) (.i (.E .x0 (.a .x1 (.k 3))) (.L .k0 .x0)))) _ _ b0 ha
 have c1 : a <= ts.length := by exact (Om.q 1 2 (.i (.T (.a .x1 (.k 2)) (.c .x0)) (.i (.E .x0 (.a .x1 (.k 3))) (.L .x0 (.c .x0))))) _ _ _ b1 ha
 have q0 := hplace a c0 c1
 refine ax (d := .int (al ts a n)) o hf (by rfl) (by walk_at "pe") (by walk_at "h") ?_
 refine bb o hf (by rfl) (cG pa_nil (by decide) ⟨_, by walk_at "h", ?_⟩)
 dsimp only
 refine ay (gY o hf hh0 (fun _ _ => rfl) (am (v := .rng 0 3) (by walk_at "pe") ⟨_, rfl, small_one (by decide) (by decide) (by decide) (by decide), LrI ts n P a D nm yt Y M H, ⟨[], a, none, rfl, rfl, rfl⟩, ?_, ?_⟩))
 ·rintro i e σ' he ⟨ns, b, tv, rfl, hst⟩
  have hi : i < 3 := by
   have := (List.getElem?_eq_some_iff.mp he).1
   simpa using this
  rw [List.getElem?_map, List.getElem?_range (by simpa using hi)] at he
  obtain rfl := Option.some.inj he
  obtain ⟨e0, e1, e2⟩ := stg_in ((Om.q 1 0 (.i (.t .x0 (.k 3)) (.l .x0 (.k 3)))) _ hi) c0 c1 hst
  have Rb : Rdr ts b := ⟨R.n, R.w, e0, by exact (Om.q 1 1 .f89) _ _ r1 e1⟩
  have qb := hplace b e0 e1
  refine ⟨_, by walk_at "h", fun X2 o2 hmd2 hh2 hr2 hs2 => ?_⟩
  with_reducible refine az (c := decide ((0 : Int) < 0 + (i : Nat)) && !isSg ts b [58]) ?_ (fun hc => ?_) (fun hc => aa ?_)
  ·walk_at "pe"
  ·simp only [Bool.and_eq_true, decide_eq_true_eq, Bool.not_eq_true'] at hc
   with_reducible refine az (c := decide ((0 : Int) + (i : Nat) = 1)) (by walk_at "pe") (fun h1 => ?_) (fun h1 => aa ?_)
   ·have h1 : i = 1 := by simp at h1; exact (Om.q 2 0 (.i (.e .x1 .x0) (.i (.E (.c .x0) .k1) (.e .x0 .k1)))) _ _ e2 h1
    subst h1
    with_reducible refine ac (v := .tup [.none, .int (al ts b n)]) (by walk_at "pe") (hΦ _ _ ?_ (by simp))
    unfold gH
    rw [stg_nosg hst hc.2]; rfl
   ·have h1 : i = 2 := by simp at h1; omega
    subst h1
    with_reducible refine ay (sx_break ?_)
    have hcl := stg_brk (n := n) hst hc.2
    obtain ⟨q, q2, q3, rfl, rfl⟩ := hst
    exact jt B o hf hh0 hr ⟨R.n, R.w, by exact (Om.q 0 2 .f90) _ _ b0 ha, by exact (Om.q 1 1 (.i (.l .x0 (.k 10000)) (.i (.L (.a .x0 (.k 3)) (.c .x0)) (.L (.a .x0 (.k 3)) (.k 20000))))) _ _ r1 e1⟩ hplace hlt ((Om.q 0 2 .f90) _ _ b0 ha) e1 (by simp) rfl rfl rfl (Int.natCast_nonneg _) (Int.natCast_nonneg _) (by decide) hcl hΦ
  ·have hc' : 0 < i -> isSg ts b [58] = true := fun h => by
    simp only [Bool.and_eq_false_iff, decide_eq_false_iff_not, Bool.not_eq_false'] at hc
    rcases hc with hc | hc
    ·exact ((Om.q 2 0 (.i (.t .x1 (.k 3)) (.i (.e .x0 .x1) (.i (.t .k0 .x1) (.i (.n (.T .k0 (.a .k0 (.c .x1)))) .f))))) _ _ hi e2 h hc : False).elim
    ·exact hc
   obtain ⟨c, hcc⟩ : ∃ c : Int, c = b + if 0 < i then 1 else 0 := ⟨_, rfl⟩
   have c2 : 0 <= c /\ c <= ts.length := by
    rw [hcc]
    split
    ·rename_i h
     have := sg_in (hc' h)
     exact (Om.q 1 3 (.i (.L .k0 .x2) (.i (.E .x1 (.a .x2 .x0)) (.i (.T .x2 (.c .x0)) (.a (.L .k0 (.a .x2 .k1)) (.L (.a .x2 .k1) (.c .x0))))))) _ _ _ _ e0 hcc this
    ·exact (Om.q 1 3 (.i (.L .k0 .x2) (.i (.L .x2 (.c .x0)) (.i (.E .x1 (.a .x2 .x0)) (.a (.L .k0 (.a .x2 .k0)) (.L (.a .x2 .k0) (.c .x0))))))) _ _ _ _ e0 e1 hcc
   have Rc : Rdr ts c := ⟨R.n, R.w, c2.1, by exact (Om.q 1 1 (.i (.l .x0 (.k 10000)) (.i (.a (.L .k0 .x0) (.L .x0 (.c .x0))) (.L .x0 (.k 20000))))) _ _ r1 c2⟩
   have qc := hplace c c2.1 c2.2
   obtain ⟨zc, _⟩ := bF Rc
   have ec : c = b + (if decide ((0 : Int) < 0 + (i : Nat)) = true then 1 else 0) := by
    rw [hcc]; congr 1
    by_cases h : 0 < i
    ·have : (0 : Int) < 0 + (i : Nat) := by exact (Om.q 2 0 (.i (.t .x1 (.k 3)) (.i (.e .x0 .x1) (.i (.t .k0 .x1) (.T .k0 (.a .k0 (.c .x1))))))) _ _ hi e2 h
     rw [if_pos h, decide_eq_true this]; rfl
    ·have : ¬ (0 : Int) < 0 + (i : Nat) := by exact (Om.q 2 0 (.i (.t .x1 (.k 3)) (.i (.e .x0 .x1) (.i (.n (.t .k0 .x1)) (.n (.T .k0 (.a .k0 (.c .x1)))))))) _ _ hi e2 h
     rw [if_neg h, decide_eq_false this]; rfl
   refine ax (d := .int c) o2 hmd2 (by rfl) (by rw [ec]; walk_at "pe") (by walk_at "h") ?_
   with_reducible refine az (c := !bH (ad ts c) 2 2) (by walk_at "pe") (fun hn => ?_) (fun hn => aa ?_)
   ·have hn : aN ts c = false := by simpa using hn
    with_reducible refine ac (v := .tup [.none, .int (al ts c n)]) (by walk_at "pe") (hΦ _ _ ?_ (by simp))
    unfold gH
    rw [stg_nonum (n := n) hi hst hc' (by rw [<- hcc]; exact hn), <- hcc]; rfl
   ·have hn : aN ts c = true := by simpa using hn
    obtain ⟨d1, d2, d3, d4⟩ := ii (by decide) hn
    have d5 : (ad ts c).length <= 600 := by exact (Om.q 1 0 (.i (.l .x0 (.k 10000)) (.i (.L (.c .x0) (.k 2)) (.i (.L (.k 2) (.c .x0)) (.l .x0 (.k 600)))))) _ zc d3 d4
    apply bI o2 hmd2 (by rfl)
    refine cY (ds := ns.map .int) (i := H.length) (d := .int (dv ts c)) o2 (by rfl) ⟨_, fun _ => by walk_at "u"⟩ (by walk_at "pe") (by walk_at "pe") aM (by simp; exact (Om.q 2 0 (.i (.t .x1 (.k 3)) (.i (.e .x0 .x1) (.l .x0 (.k 1000000))))) _ _ hi e2) ?_
    dsimp only
    rw [aF]
    refine ax (d := .int (c + 1)) o2 hmd2 (by rfl) (by walk_at "pe") (by walk_at "h") (aa ?_)
    refine ⟨ns ++ [dv ts c], c + 1, _, by rw [List.map_append]; rfl, ?_⟩
    have := stg_next hi hst hc' (by rw [<- hcc]; exact hn)
    rw [<- hcc] at this
    exact this
 ·rintro σ' ⟨ns, b, tv, rfl, hst⟩
  rw [show (List.map (fun i => V.int (0 + (i : Nat))) (List.range ((3 : Int) - 0).toNat)).length = 3 from by simp] at hst
  obtain ⟨e0, e1, e2⟩ := stg_in (by decide) c0 c1 hst
  have hcl := stg_end (n := n) hst
  obtain ⟨q, q2, q3, q4, q5, rfl, rfl⟩ := hst
  exact jt B o hf hh0 hr ⟨R.n, R.w, by exact (Om.q 0 2 .f91) _ _ b0 ha, by exact (Om.q 1 1 (.i (.l .x0 (.k 10000)) (.i (.L (.a .x0 (.k 5)) (.c .x0)) (.L (.a .x0 (.k 5)) (.k 20000))))) _ _ r1 e1⟩ hplace hlt ((Om.q 0 2 .f91) _ _ b0 ha) e1 (by simp) rfl rfl rfl (Int.natCast_nonneg _) (Int.natCast_nonneg _) (Int.natCast_nonneg _) hcl hΦ
end
theorem upp_top : ∀ {t : List Nat}, (∀ c ∈ t, c < 256) -> (uppL t).length <= 2 * t.length
 | [], _ => by simp [uppL]
 | c :: t, h => by
  have := upper_len c (h c (.head _))
  have ih := upp_top (t := t) fun c hc => h c (.tail _ hc)
  have e : uppL (c :: t) = Unicode.upperOf c ++ uppL t := by simp [uppL]
  rw [e, List.length_append, List.length_cons]; exact (Om.q 3 0 (.i (.l .x2 (.k 2)) (.i (.l .x1 (.m 2 .x0)) (.l (.a .x2 .x1) (.m 2 (.a .x0 .k1)))))) _ _ _ this ih
theorem low_top : ∀ {t : List Nat}, (∀ c ∈ t, c < 256) -> (lowL t).length <= t.length
 | [], _ => by simp [lowL]
 | c :: t, h => by
  have := lower_len c (h c (.head _))
  have ih := low_top (t := t) fun c hc => h c (.tail _ hc)
  have e : lowL (c :: t) = Unicode.lowerOf c ++ lowL t := by simp [lowL]
  rw [e, List.length_append, List.length_cons]; exact (Om.q 3 0 (.i (.e .x2 .k1) (.i (.l .x1 .x0) (.l (.a .x2 .x1) (.a .x0 .k1))))) _ _ _ this ih
theorem km {r : Except Int Mom} {k : Nat} : (lawV r).closed k = true := by cases r <;> rfl
theorem lr {ts : List Tk} {n a0 Y M D : Int} (hc : bH (ad ts a0) 1 2 = true) (hm : ¬ aC (ad ts (a0 + 1)) = 0) (hc3 : bH (ad ts (a0 + 2)) 2 4 = true) (hY : Y = aD (digitsVal (ad ts (a0 + 2))) (ad ts (a0 + 2)).length) (hM : M = (aC (ad ts (a0 + 1)) : Int)) (hD : D = (digitsVal (ad ts a0) : Int)) :
  dz ts n a0 = if ew Y M D = false then .error (al ts a0 n) else gH ts n (a0 + 3) Y M D := by
 unfold dz; rw [cj (by decide), if_pos hc]; show dtB _ _ _ _ = _; unfold dtB; rw [if_neg hm, cj (by decide), if_pos hc3]; show dtC _ _ _ _ _ _ = _; unfold dtC gH; subst hY hM hD
 cases aW ts (a0 + 3) n with
 | error e => rfl
 | ok x => obtain ⟨⟨h, m, s⟩, a4⟩ := x; rfl
section
variable {G : Gx} {X : Fx} {σ τ : St} {Ψ : Ps} {Φ : V -> St -> Prop} {ΦF : Fl -> St -> Prop}
theorem kM (B : Base G) (o : X.Ok G) (hf : X.md = .fr) (hh0 : X.A.handled = none) (hr : 3 <= X.room) {ts : List Tk} {n : Int} (R : Rdr ts 0) : RC G X (.glob "_law_read") [.lst (ts.map tkV), .int n] σ (.ok (lawV (iM ts n), σ.heap)) := by
 have r1 := R.n
 have r4 : (ts.map tkV).length <= 10000 := by rw [List.length_map]; exact r1
 refine rdef ["tokens", "length"] ["places", "at", "begun", "day", "name", "year_text", "year", "month", "numbers", "turn", "text", "zone"] lrG o hf (Om.lo hr) B.f_law_read (by walk_at "dk")
  (.cons (av B.f_law_atom) (.cons (av B.f_law_is_sign) (.cons (av B.f_law_is_number) (.cons B.int (.cons B.lmonths (.cons B.len (.cons (av B.f_law_length) (.cons B.range (.cons (av B.f_law_zones) .nil))))))))) fun X' o' hmd hh hr' hsc hcl => ?_
 dsimp only [mkLoc, List.map]
 have hh' : X'.A.handled = none := hh.trans hh0
 have hlt : ((ts.map tkV).map thirdV ++ [V.int n]).length <= 10001 := by simp; exact Om.hi r1
 refine ax (d := .lst ((ts.map tkV).map thirdV ++ [.int n])) o' hmd (by rfl) ?_ (by walk_at "h") ?_
 ·with_reducible refine ai (a := .lst ((ts.map tkV).map thirdV)) (b := .lst [.int n]) ?_ (by walk_at "pe") (pb_addl o' (by simp; exact Om.hi r1))
  refine bV [] thirdV (d := .lst (ts.map tkV)) o' hmd hh' (by rfl) .nil (fun _ _ => rfl) (fun _ => by walk_at "u") (by walk_at "pe") rfl rfl (by simp; exact Om.hi r1) ?_
  intro d hd X2 o2 hm2 hh2 hr2
  obtain ⟨t, ht, rfl⟩ := List.mem_map.mp hd
  show PE _ _ _ _ (.int t.2.2)
  unfold tkV
  walk_at "pe"
 have hplace : ∀ a : Int, 0 <= a -> a <= ts.length -> ((ts.map tkV).map thirdV ++ [V.int n])[a.toNat]? = some (.int (al ts a n)) := fun a => kO
 revert hplace hlt
 obtain ⟨P, hP⟩ : ∃ y, ((ts.map tkV).map thirdV ++ [V.int n]) = y := ⟨_, rfl⟩
 rw [hP]
 intro hlt hplace
 refine ax (d := .int 0) o' hmd (by rfl) (by walk_at "pe") (by walk_at "h") ?_
 obtain ⟨z0, c0⟩ := bF R
 have zl : (ad ts 0).length <= 1000000 := by exact Om.hi z0
 have R1 : Rdr ts 1 := ⟨R.n, R.w, by decide, by decide⟩
 with_reducible refine gq ⟨[("tokens", some (.lst (ts.map tkV))), ("length", some (.int n)), ("places", some (.lst P)), ("at", some (.int (begA ts))), ("begun", none), ("day", none), ("name", none), ("year_text", none), ("year", none), ("month", none), ("numbers", none), ("turn", none), ("text", none), ("zone", none)], lrG, σ.heap⟩ (c := low7.contains (lowT (ad ts 0))) ?_ ?_ ?_ ?_
 ·rw [<- day_in c0]
  with_reducible refine bw (by walk_at "u") (b := .tup (low7.map .str)) ?_ ?_ (pq_ints o' (by exact bL _))
  ·walk_at "pe"
  ·with_reducible exact ef (by walk_at "u") (by decide)
 ·intro hc
  refine ax (d := .int (begA ts)) o' hmd (by rfl) ?_ (by walk_at "h") (aa ⟨rfl, rfl⟩)
  unfold begA
  rw [if_pos hc]
  walk_at "pe"
 ·intro hc
  with_reducible refine aa ⟨rfl, ?_⟩
  have : begA ts = 0 := by unfold begA; rw [if_neg (by rw [hc]; decide)]
  rw [this]
 obtain ⟨b0, b1⟩ := begA_in (ts := ts)
 rw [dateR_A]
 revert b0 b1
 obtain ⟨a0, ha0⟩ : ∃ y, begA ts = y := ⟨_, rfl⟩
 rw [ha0]
 intro b0 b1
 have R2 : Rdr ts a0 := ⟨R.n, R.w, b0, by exact (Om.q 1 1 .f89) _ _ r1 b1⟩
 have q0 := hplace a0 b0 b1
 obtain ⟨z2, c2⟩ := bF R2
 refine ax (d := .int (al ts a0 n)) o' hmd (by rfl) (by walk_at "pe") (by walk_at "h") ?_
 with_reducible refine az (c := !(bH (ad ts a0) 1 2)) (by walk_at "pe") (fun hc => ?_) (fun hc => aa ?_)
 ·have hc : bH (ad ts a0) 1 2 = false := by simpa using hc
  have e : dz ts n a0 = .error (al ts a0 n) := by unfold dz; rw [cj (by decide), if_neg (by rw [hc]; decide)]
  with_reducible refine ac (v := .tup [.none, .int (al ts a0 n)]) (by walk_at "pe") ?_
  exact bx (G := G) hcl (by simp) (by rw [e]; rfl) rfl
 have hc : bH (ad ts a0) 1 2 = true := by simpa using hc
 obtain ⟨n1, n2, n3, n4⟩ := ii (by decide) hc
 have i0 := cZ b0 n2
 have n5 : (ad ts a0).length <= 600 := by exact (Om.q 1 0 (.i (.l .x0 (.k 10000)) (.i (.L (.c .x0) (.k 2)) (.i (.L .k1 (.c .x0)) (.l .x0 (.k 600)))))) _ z2 n3 n4
 refine ax (d := .int (digitsVal (ad ts a0))) o' hmd (by rfl) (by walk_at "pe") (by walk_at "h") ?_
 have R3 : Rdr ts (a0 + 1) := R2.add (by decide) ((Om.q 1 1 (.i (.l .x0 (.k 10000)) (.i (.T .x0 (.c .x0)) (.L (.a .x0 .k1) (.k 20000))))) _ _ r1 i0)
 obtain ⟨z3, c3⟩ := bF R3
 have k1 : ∀ c ∈ (ad ts (a0 + 1)).take (1 : Int).toNat, c < 256 := fun c h => c3 c (List.mem_of_mem_take h)
 have k2 : ∀ c ∈ (ad ts (a0 + 1)).drop (1 : Int).toNat, c < 256 := fun c h => c3 c (List.mem_of_mem_drop h)
 have k3 : ((ad ts (a0 + 1)).take (1 : Int).toNat).length <= 1000000 := by rw [List.length_take]; exact Nat.le_trans (Nat.min_le_right _ _) (Om.hi z3)
 have k4 : ((ad ts (a0 + 1)).drop (1 : Int).toNat).length <= 1000000 := by rw [List.length_drop]; exact (Om.q 3 0 (.i (.l .x2 (.k 10000)) (.i (.o (.a (.L .k0 .k1) (.E (.c .x0) .k1)) (.a (.T .k1 .k0) (.e .x0 .k0))) (.i (.o (.a (.l .x0 .x2) (.e (.a .x1 .x0) .x2)) (.a (.t .x2 .x0) (.e .x1 .k0))) (.l .x1 (.k 1000000)))))) _ _ _ z3 (Om.tno _) (Om.sbo _ _)
 have k5 : (uppL ((ad ts (a0 + 1)).take (1 : Int).toNat)).length + (lowL ((ad ts (a0 + 1)).drop (1 : Int).toNat)).length <= 1000000 := by
  have u1 := upp_top k1
  have u2 := low_top k2
  rw [List.length_take] at u1
  rw [List.length_drop] at u2
  have u3 := Nat.min_le_right (1 : Int).toNat (ad ts (a0 + 1)).length
  have u4 := Nat.sub_le (ad ts (a0 + 1)).length (1 : Int).toNat
  exact (Om.q 6 0 (.i (.l .x5 (.k 10000)) (.i (.l .x4 (.m 2 .x3)) (.i (.l .x1 .x0) (.i (.l .x3 .x5) (.i (.l .x0 .x5) (.i (.o (.a (.L .k0 .k1) (.E (.c .x2) .k1)) (.a (.T .k1 .k0) (.e .x2 .k0))) (.i (.o (.a (.l .x2 .x5) (.e .x3 .x2)) (.a (.t .x5 .x2) (.e .x3 .x5))) (.i (.o (.a (.l .x2 .x5) (.e (.a .x0 .x2) .x5)) (.a (.t .x5 .x2) (.e .x0 .k0))) (.l (.a .x4 .x1) (.k 1000000))))))))))) _ _ _ _ _ _ z3 u1 u2 u3 u4 (Om.tno _) (Om.mn _ _) (Om.sbo _ _)
 have eM : uppL ((ad ts (a0 + 1)).take (1 : Int).toNat) ++ lowL ((ad ts (a0 + 1)).drop (1 : Int).toNat) = bO (ad ts (a0 + 1)) := rfl
 have z3' : (ad ts (a0 + 1)).length <= 1000000 := by exact Om.hi z3
 refine ax (d := .str (bO (ad ts (a0 + 1)))) o' hmd (by rfl) (by rw [<- eM]; walk_at "pe") (by walk_at "h") ?_
 have q1 := hplace (a0 + 1) ((Om.q 0 1 .f0) _ b0) ((Om.q 1 1 .f5) _ _ i0)
 with_reducible refine az (c := !(names12.contains (bO (ad ts (a0 + 1))))) ?_ (fun hc2 => ?_) (fun hc2 => aa ?_)
 ·with_reducible refine bw (by walk_at "u") (b := .tup (names12.map .str)) ?_ ?_ (kN o' (by exact bL _))
  ·walk_at "pe"
  ·walk_at "pe"
 ·have hm : aC (ad ts (a0 + 1)) = 0 := by rw [mon_in c3] at hc2; simpa using hc2
  have e : dz ts n a0 = .error (al ts (a0 + 1) n) := by unfold dz; rw [cj (by decide), if_pos hc]; show dtB _ _ _ _ = _; unfold dtB; rw [if_pos hm]
  with_reducible refine ac (v := .tup [.none, .int (al ts (a0 + 1) n)]) (by walk_at "pe") ?_
  exact bx (G := G) hcl (by simp) (by rw [e]; rfl) rfl
 have hm : ¬ aC (ad ts (a0 + 1)) = 0 := by rw [mon_in c3] at hc2; simpa using hc2
 obtain ⟨j1, j2, j3⟩ := mon_at c3 hm
 have i1 : a0 + 1 < ts.length := cZ ((Om.q 0 1 .f0) _ b0) (fun e => hm (by rw [e]; decide +kernel))
 have R4 : Rdr ts (a0 + 2) := R2.add (by decide) ((Om.q 1 1 (.i (.l .x0 (.k 10000)) (.i (.T (.a .x0 .k1) (.c .x0)) (.L (.a .x0 (.k 2)) (.k 20000))))) _ _ r1 i1)
 obtain ⟨z4, c4⟩ := bF R4
 refine ax (d := .str (ad ts (a0 + 2))) o' hmd (by rfl) (by walk_at "pe") (by walk_at "h") ?_
 have q2 := hplace (a0 + 2) ((Om.q 0 1 .f22) _ b0) ((Om.q 1 1 (.i (.T (.a .x0 .k1) (.c .x0)) (.L (.a .x0 (.k 2)) (.c .x0)))) _ _ i1)
 with_reducible refine az (c := !(bH (ad ts (a0 + 2)) 2 4)) (by walk_at "pe") (fun hc3 => ?_) (fun hc3 => aa ?_)
 ·have hc3 : bH (ad ts (a0 + 2)) 2 4 = false := by simpa using hc3
  have e : dz ts n a0 = .error (al ts (a0 + 2) n) := by unfold dz; rw [cj (by decide), if_pos hc]; show dtB _ _ _ _ = _; unfold dtB; rw [if_neg hm, cj (by decide), if_neg (by rw [hc3]; decide)]
  with_reducible refine ac (v := .tup [.none, .int (al ts (a0 + 2) n)]) (by walk_at "pe") ?_
  exact bx (G := G) hcl (by simp) (by rw [e]; rfl) rfl
 have hc3 : bH (ad ts (a0 + 2)) 2 4 = true := by simpa using hc3
 obtain ⟨y1, y2, y3, y4⟩ := ii (by decide) hc3
 have i2 := cZ ((Om.q 0 1 .f22) _ b0) y2
 have y5 : (ad ts (a0 + 2)).length <= 600 := by exact (Om.q 1 0 (.i (.l .x0 (.k 10000)) (.i (.L (.c .x0) (.k 4)) (.i (.L (.k 2) (.c .x0)) (.l .x0 (.k 600)))))) _ z4 y3 y4
 have y6 : (ad ts (a0 + 2)).length <= 1000000 := by exact (Om.q 1 0 (.i (.l .x0 (.k 10000)) (.i (.L (.c .x0) (.k 4)) (.i (.L (.k 2) (.c .x0)) (.l .x0 (.k 1000000)))))) _ z4 y3 y4
 refine ax (d := .int (digitsVal (ad ts (a0 + 2)))) o' hmd (by rfl) (by walk_at "pe") (by walk_at "h") ?_
 obtain ⟨Y, hY⟩ : ∃ Y : Int, Y = aD (digitsVal (ad ts (a0 + 2))) (ad ts (a0 + 2)).length := ⟨_, rfl⟩
 have hYb := year_top y1 ((Om.q 1 0 (.i (.l .x0 (.k 10000)) (.i (.L (.c .x0) (.k 4)) (.i (.L (.k 2) (.c .x0)) (.l (.k 2) .x0))))) _ z4 y3 y4) ((Om.q 1 0 (.i (.l .x0 (.k 10000)) (.i (.L (.c .x0) (.k 4)) (.i (.L (.k 2) (.c .x0)) (.l .x0 (.k 4)))))) _ z4 y3 y4)
 rw [<- hY] at hYb
 with_reducible refine gq ⟨[("tokens", some (.lst (ts.map tkV))), ("length", some (.int n)), ("places", some (.lst P)), ("at", some (.int a0)), ("begun", some (.int (al ts a0 n))), ("day", some (.int (digitsVal (ad ts a0)))), ("name", some (.str (bO (ad ts (a0 + 1))))), ("year_text", some (.str (ad ts (a0 + 2)))), ("year", some (.int Y)), ("month", none), ("numbers", none), ("turn", none), ("text", none), ("zone", none)], lrG, σ.heap⟩ (c := decide (((ad ts (a0 + 2)).length : Int) = 2)) (by walk_at "pe") (fun hy => ?_) (fun hy => ?_) ?_
 ·have hy : ((ad ts (a0 + 2)).length : Int) = 2 := by simpa using hy
  refine ax (d := .int Y) o' hmd (by rfl) ?_ (by walk_at "h") (aa ⟨rfl, rfl⟩)
  have e : Y = (digitsVal (ad ts (a0 + 2)) : Int) + (if decide (49 < (digitsVal (ad ts (a0 + 2)) : Int)) = true then 1900 else 2000) := by
   rw [hY]; unfold aD; rw [if_pos hy]
   congr 1
   simp only [decide_eq_true_eq]
   split <;> split <;> omega
  rw [e]
  walk_at "pe"
 ·have hy : ¬ ((ad ts (a0 + 2)).length : Int) = 2 := by simpa using hy
  with_reducible refine az (c := decide (((ad ts (a0 + 2)).length : Int) = 3)) (by walk_at "pe") (fun hy3 => ?_) (fun hy3 => ?_)
  ·have hy3 : ((ad ts (a0 + 2)).length : Int) = 3 := by simpa using hy3
   refine ax (d := .int Y) o' hmd (by rfl) ?_ (by walk_at "h") (aa (aa ⟨rfl, rfl⟩))
   have e : Y = (digitsVal (ad ts (a0 + 2)) : Int) + 1900 := by
    rw [hY]; unfold aD; rw [if_neg hy, if_pos hy3]
   rw [e]
   walk_at "pe"
  ·have hy3 : ¬ ((ad ts (a0 + 2)).length : Int) = 3 := by simpa using hy3
   have e : Y = (digitsVal (ad ts (a0 + 2)) : Int) := by
    rw [hY]; unfold aD; rw [if_neg hy, if_neg hy3]
   rw [e]
   with_reducible exact aa (aa ⟨rfl, rfl⟩)
 obtain ⟨M, hM⟩ : ∃ M : Int, M = (aC (ad ts (a0 + 1)) : Int) := ⟨_, rfl⟩
 have hM1 : 1 <= M := by exact (Om.q 1 1 (.i (.n (.e .x0 .k0)) (.i (.l .x0 (.k 12)) (.i (.E .x0 (.c .x0)) (.L .k1 .x0))))) _ _ hm j3 hM
 have hM2 : M <= 12 := by exact (Om.q 1 1 (.i (.l .x0 (.k 12)) (.i (.E .x0 (.c .x0)) (.i (.L .k1 .x0) (.L .x0 (.k 12)))))) _ _ j3 hM hM1
 refine ax (d := .int M) o' hmd (by rfl) ?_ (by walk_at "h") ?_
 ·have e : M = ((aC (ad ts (a0 + 1)) - 1 : Nat) : Int) + 1 := by exact (Om.q 2 1 (.i (.l .x1 (.k 12)) (.i (.E .x0 (.c .x1)) (.i (.L .k1 .x0) (.i (.o (.a (.l .k1 .x1) (.e (.a .x0 .k1) .x1)) (.a (.t .x1 .k1) (.e .x0 .k0))) (.E .x0 (.a (.c .x0) .k1))))))) _ _ _ j3 hM hM1 (Om.sbo _ _)
  rw [e]
  with_reducible refine ai ?_ (by walk_at "pe") fA
  with_reducible refine aI (by assumption) (by walk_at "u") ⟨_, fun _ => by walk_at "u"⟩ (au o' (by walk_at "h")) (gm_indext o') rfl (ds := [.str (bO (ad ts (a0 + 1)))]) (by walk_at "pe") ?_
  exact pc_indext o' (bL _) (by decide) j1 j2
 obtain ⟨D, hD⟩ : ∃ D : Int, D = (digitsVal (ad ts a0) : Int) := ⟨_, rfl⟩
 rw [<- hD]
 rw [lr hc hm hc3 hY hM hD]
 with_reducible refine az (c := !ew Y M D) ?_ (fun hc4 => ?_) (fun hc4 => aa ?_)
 ·rw [<- is_day hM1 hM2 hYb.2]
  with_reducible refine bB (ca (by walk_at "pe") fun _ => eY ?_)
  walk_at "pe"
 ·have hc4 : ew Y M D = false := by simpa using hc4
  with_reducible refine ac (v := .tup [.none, .int (al ts a0 n)]) (by walk_at "pe") ?_
  exact bx (G := G) hcl (by simp) (by rw [if_pos hc4]; rfl) rfl
 have hc4 : ¬ ew Y M D = false := by simpa using hc4
 rw [if_neg hc4]
 exact lr_mid B o' hmd hh' ((Om.q 4 1 (.i (.l (.k 3) .x3) (.i (.e .x2 .x1) (.i (.n (.e .x0 .k0)) (.i (.l .x0 (.k 12)) (.i (.E .x0 (.c .x0)) (.i (.L .k1 .x0) (.i (.o (.a (.l .k1 .x3) (.e (.a .x1 .k1) .x3)) (.a (.t .x3 .k1) (.e .x1 .k0))) (.l (.k 2) .x2))))))))) _ _ _ _ _ hr hr' hm j3 hM hM1 (Om.sbo _ _)) R2 hplace hlt b0 i2 fun v σ' hv ht => bx (G := G) hcl ht (by rw [hv]) (by rw [hv]; exact km)
end
noncomputable def zel (y m d : Int) : Int := (d + (13 * (m + 1)).fdiv 5 + y + y.fdiv 4 - y.fdiv 100 + y.fdiv 400).fmod 7
noncomputable def gL (y m d : Int) : Int := if decide (m < 3) = true then zel (y - 1) (m + 12) d else zel y m d
section
variable {G : Gx} {X : Fx} {σ τ : St} {Ψ : Ps} {Φ : V -> St -> Prop} {ΦF : Fl -> St -> Prop}
theorem jp (B : Base G) (o : X.Ok G) (hh0 : X.A.handled = none) (hr : 1 <= X.room) {y m d : Int} (h1 : 1 <= m) (h2 : m <= 12) : PC G X (.glob "_law_weekday") [.int y, .int m, .int d] σ (.int (gL y m d)) := by
 refine fz ["year", "month", "day"] [] [] o (Om.lo hr) B.f_law_weekday (by walk_at "dk") .nil rfl fun X' o' hmd hh hr' hsc => ?_
 dsimp only [mkLoc, List.map]
 refine gq ⟨[("year", some (.int (if decide (m < 3) = true then y - 1 else y))), ("month", some (.int (if decide (m < 3) = true then m + 12 else m))), ("day", some (.int d))], [], σ.heap⟩ (c := decide (m < 3)) (by walk_at "pe") (fun hc => ?_) (fun hc => ?_) ?_
 ·rw [if_pos hc, if_pos hc]
  refine ay (sx_swap (xs := ["year", "month"]) o' hmd (hh.trans hh0) (fun _ => by walk_at "u") (by rw [dD hmd]; unfold Fx.fenv; rw [hsc]; with_unfolding_all rfl) (am (v := .tup [.int (y - 1), .int (m + 12)]) (by walk_at "pe") ⟨_, _, rfl, rfl, Puts.cons (by walk_at "h") (Puts.cons (by walk_at "h") Puts.nil), aa ⟨rfl, rfl⟩⟩))
 ·have hn : ¬ decide (m < 3) = true := by rw [hc]; decide
  rw [if_neg hn, if_neg hn]
  with_reducible exact aa ⟨rfl, rfl⟩
 ·unfold gL
  split
  ·with_reducible refine ac (v := .int (zel (y - 1) (m + 12) d)) (by unfold zel; walk_at "pe") ⟨rfl, rfl⟩
  ·with_reducible refine ac (v := .int (zel y m d)) (by unfold zel; walk_at "pe") ⟨rfl, rfl⟩
end
noncomputable def mlB (b : Bool) (m : Int) : Int := if m = 2 then (if b = true then 29 else 28) else if [4, 6, 9, 11].contains m = true then 30 else 31
noncomputable def mbB (b : Bool) : Nat -> Int
 | 0 => 0
 | n + 1 => mbB b n + mlB b (n + 1)
theorem mb_B (y : Int) : ∀ n, mb y n = mbB (leap y) n
 | 0 => rfl
 | n + 1 => by unfold mb mbB; rw [mb_B y n]; rfl
theorem mod7 {a b t : Int} (h : a = b + 7 * t) : a.fmod 7 = b.fmod 7 := by
 subst h
 rw [Int.fmod_eq_emod_of_nonneg _ (by decide), Int.fmod_eq_emod_of_nonneg _ (by decide), Int.add_mul_emod_self_left]
theorem zel_tab : ∀ (b : Bool) (k : Nat), k < 12 -> ((13 * ((k : Int) + 1 + (if k < 2 then 12 else 0) + 1)) / 5 - mbB b k + (if k < 2 then -1 else if b = true then 1 else 0) + 719523) % 7 = 0 := by decide +kernel
theorem leap_step (y : Int) : y / 4 - y / 100 + y / 400 = (y - 1) / 4 - (y - 1) / 100 + (y - 1) / 400 + (if leap y = true then 1 else 0) := by
 have e4 : y / 4 = (y - 1) / 4 + (if y % 4 = 0 then 1 else 0) := by split <;> (first | exact (Om.q 0 4 (.i (.E .x3 .k0) (.i (.a (.L (.m 4 .x1) .x2) (.T .x2 (.a (.m 4 .x1) (.k 4)))) (.i (.E (.a (.m 4 .x1) .x3) .x2) (.i (.a (.L (.m 4 .x0) (.s .x2 .k1)) (.T (.s .x2 .k1) (.a (.m 4 .x0) (.k 4)))) (.E .x1 (.a .x0 .k1))))))) _ _ _ _ (by assumption) (Om.zdv _ 4 rfl) (Int.mul_ediv_add_emod _ 4) (Om.zdv _ 4 rfl) | exact (Om.q 0 4 (.i (.n (.E .x3 .k0)) (.i (.a (.L (.m 4 .x1) .x2) (.T .x2 (.a (.m 4 .x1) (.k 4)))) (.i (.E (.a (.m 4 .x1) .x3) .x2) (.i (.a (.L (.m 4 .x0) (.s .x2 .k1)) (.T (.s .x2 .k1) (.a (.m 4 .x0) (.k 4)))) (.E .x1 (.a .x0 .k0))))))) _ _ _ _ (by assumption) (Om.zdv _ 4 rfl) (Int.mul_ediv_add_emod _ 4) (Om.zdv _ 4 rfl))
 have e100 : y / 100 = (y - 1) / 100 + (if y % 100 = 0 then 1 else 0) := by split <;> (first | exact (Om.q 0 4 (.i (.E .x3 .k0) (.i (.a (.L (.m 100 .x1) .x2) (.T .x2 (.a (.m 100 .x1) (.k 100)))) (.i (.E (.a (.m 100 .x1) .x3) .x2) (.i (.a (.L (.m 100 .x0) (.s .x2 .k1)) (.T (.s .x2 .k1) (.a (.m 100 .x0) (.k 100)))) (.E .x1 (.a .x0 .k1))))))) _ _ _ _ (by assumption) (Om.zdv _ 100 rfl) (Int.mul_ediv_add_emod _ 100) (Om.zdv _ 100 rfl) | exact (Om.q 0 4 (.i (.n (.E .x3 .k0)) (.i (.a (.L (.m 100 .x1) .x2) (.T .x2 (.a (.m 100 .x1) (.k 100)))) (.i (.E (.a (.m 100 .x1) .x3) .x2) (.i (.a (.L (.m 100 .x0) (.s .x2 .k1)) (.T (.s .x2 .k1) (.a (.m 100 .x0) (.k 100)))) (.E .x1 (.a .x0 .k0))))))) _ _ _ _ (by assumption) (Om.zdv _ 100 rfl) (Int.mul_ediv_add_emod _ 100) (Om.zdv _ 100 rfl))
 have e400 : y / 400 = (y - 1) / 400 + (if y % 400 = 0 then 1 else 0) := by split <;> (first | exact (Om.q 0 4 (.i (.E .x3 .k0) (.i (.a (.L (.m 400 .x1) .x2) (.T .x2 (.a (.m 400 .x1) (.k 400)))) (.i (.E (.a (.m 400 .x1) .x3) .x2) (.i (.a (.L (.m 400 .x0) (.s .x2 .k1)) (.T (.s .x2 .k1) (.a (.m 400 .x0) (.k 400)))) (.E .x1 (.a .x0 .k1))))))) _ _ _ _ (by assumption) (Om.zdv _ 400 rfl) (Int.mul_ediv_add_emod _ 400) (Om.zdv _ 400 rfl) | exact (Om.q 0 4 (.i (.n (.E .x3 .k0)) (.i (.a (.L (.m 400 .x1) .x2) (.T .x2 (.a (.m 400 .x1) (.k 400)))) (.i (.E (.a (.m 400 .x1) .x3) .x2) (.i (.a (.L (.m 400 .x0) (.s .x2 .k1)) (.T (.s .x2 .k1) (.a (.m 400 .x0) (.k 400)))) (.E .x1 (.a .x0 .k0))))))) _ _ _ _ (by assumption) (Om.zdv _ 400 rfl) (Int.mul_ediv_add_emod _ 400) (Om.zdv _ 400 rfl))
 have i1 : y % 400 = 0 -> y % 100 = 0 := fun h => by rw [<- Int.emod_emod_of_dvd y (show (100 : Int) ∣ 400 by decide), h]; rfl
 have i2 : y % 100 = 0 -> y % 4 = 0 := fun h => by rw [<- Int.emod_emod_of_dvd y (show (4 : Int) ∣ 100 by decide), h]; rfl
 have el : (if leap y = true then (1 : Int) else 0) = (if y % 4 = 0 then 1 else 0) - (if y % 100 = 0 then 1 else 0) + (if y % 400 = 0 then 1 else 0) := by
  unfold leap
  rw [Int.fmod_eq_emod_of_nonneg _ (by decide), Int.fmod_eq_emod_of_nonneg _ (by decide), Int.fmod_eq_emod_of_nonneg _ (by decide)]
  by_cases a : y % 4 = 0
  ·by_cases b : y % 100 = 0
   ·by_cases c : y % 400 = 0 <;> simp [a, b, c]
   ·have c : ¬ y % 400 = 0 := fun h => b (i1 h)
    simp [a, b, c]
  ·have b : ¬ y % 100 = 0 := fun h => a (i2 h)
   have c : ¬ y % 400 = 0 := fun h => b (i1 h)
   simp [a, b, c]
 rw [e4, e100, e400, el]
 generalize (if y % 4 = 0 then (1 : Int) else 0) = p
 generalize (if y % 100 = 0 then (1 : Int) else 0) = q
 generalize (if y % 400 = 0 then (1 : Int) else 0) = r
 exact (Om.q 0 7 (.i (.a (.L (.m 4 .x6) (.s .x5 .k1)) (.T (.s .x5 .k1) (.a (.m 4 .x6) (.k 4)))) (.i (.a (.L (.m 100 .x3) (.s .x5 .k1)) (.T (.s .x5 .k1) (.a (.m 100 .x3) (.k 100)))) (.i (.a (.L (.m 400 .x1) (.s .x5 .k1)) (.T (.s .x5 .k1) (.a (.m 400 .x1) (.k 400)))) (.E (.a (.s (.a .x6 .x4) (.a .x3 .x2)) (.a .x1 .x0)) (.a (.a (.s .x6 .x3) .x1) (.a (.s .x4 .x2) .x0))))))) _ _ _ _ _ _ _ (Om.zdv _ 4 rfl) (Om.zdv _ 100 rfl) (Om.zdv _ 400 rfl)
theorem zeller {y m d : Int} (h1 : 1 <= m) (h2 : m <= 12) : gL y m d = (bR y m d + 2).fmod 7 := by
 obtain ⟨k, rfl⟩ : ∃ k : Nat, m = k + 1 := ⟨(m - 1).toNat, by exact (Om.q 1 1 (.i (.L .k1 .x0) (.i (.L .x0 (.k 12)) (.i (.o (.a (.L .k0 (.s .x0 .k1)) (.E (.c .x0) (.s .x0 .k1))) (.a (.T (.s .x0 .k1) .k0) (.e .x0 .k0))) (.E .x0 (.a (.c .x0) .k1)))))) _ _ h1 h2 (Om.tno _)⟩
 have hk : k < 12 := by exact (Om.q 1 0 (.i (.L .k1 (.a (.c .x0) .k1)) (.i (.L (.a (.c .x0) .k1) (.k 12)) (.t .x0 (.k 12))))) _ h1 h2
 have ht := zel_tab (leap y) k hk
 have hs := leap_step y
 have e : ((k : Int) + 1 - 1).toNat = k := by exact (Om.q 2 0 (.i (.L .k1 (.a (.c .x1) .k1)) (.i (.L (.a (.c .x1) .k1) (.k 12)) (.i (.o (.a (.L .k0 (.s (.a (.c .x1) .k1) .k1)) (.E (.c .x0) (.s (.a (.c .x1) .k1) .k1))) (.a (.T (.s (.a (.c .x1) .k1) .k1) .k0) (.e .x0 .k0))) (.e .x0 .x1))))) _ _ h1 h2 (Om.tno _)
 have hin : ∀ x : Int, (x.fmod 7 + 2).fmod 7 = (x + 2).fmod 7 := fun x => by
  rw [Int.fmod_eq_emod_of_nonneg _ (show (0 : Int) <= 7 by decide), Int.fmod_eq_emod_of_nonneg _ (show (0 : Int) <= 7 by decide), Int.fmod_eq_emod_of_nonneg _ (show (0 : Int) <= 7 by decide), Int.emod_add_emod]
 unfold gL bR
 rw [hin]
 unfold zel fH dq
 rw [e, mb_B]
 simp only [Int.fdiv_eq_ediv_of_nonneg _ (show (0 : Int) <= 4 by decide), Int.fdiv_eq_ediv_of_nonneg _ (show (0 : Int) <= 100 by decide), Int.fdiv_eq_ediv_of_nonneg _ (show (0 : Int) <= 400 by decide), Int.fdiv_eq_ediv_of_nonneg _ (show (0 : Int) <= 5 by decide)]
 revert ht hs
 generalize mbB (leap y) k = M
 generalize (if leap y = true then (1 : Int) else 0) = L
 generalize y / 4 = y4
 generalize y / 100 = y100
 generalize y / 400 = y400
 generalize (y - 1) / 4 = x4
 generalize (y - 1) / 100 = x100
 generalize (y - 1) / 400 = x400
 intro ht hs
 by_cases h : k < 2
 ·rw [if_pos h, if_pos h] at ht
  rw [if_pos (decide_eq_true (show ((k : Int) + 1) < 3 by exact (Om.q 2 0 (.i (.L .k1 (.a (.c .x1) .k1)) (.i (.L (.a (.c .x1) .k1) (.k 12)) (.i (.e .x0 .x1) (.i (.t .x1 (.k 2)) (.i (.o (.a (.L .k0 (.s (.a (.c .x1) .k1) .k1)) (.E (.c .x0) (.s (.a (.c .x1) .k1) .k1))) (.a (.T (.s (.a (.c .x1) .k1) .k1) .k0) (.e .x0 .k0))) (.T (.a (.c .x1) .k1) (.k 3)))))))) _ _ h1 h2 e h (Om.tno _)))]
  generalize 13 * ((k : Int) + 1 + 12 + 1) / 5 = c at ht ⊢
  refine mod7 (t := (c - M + -1 + 719523) / 7 - 52 * y) ?_
  exact (Om.q 0 10 (.i (.E (.v 9) .k0) (.i (.a (.L (.m 7 .x6) (.a (.a (.s (.v 8) .x7) (.g .k1)) (.k 719523))) (.T (.a (.a (.s (.v 8) .x7) (.g .k1)) (.k 719523)) (.a (.m 7 .x6) (.k 7)))) (.i (.E (.a (.m 7 .x6) (.v 9)) (.a (.a (.s (.v 8) .x7) (.g .k1)) (.k 719523))) (.i (.E .x0 (.m 365 (.s .x4 .k1))) (.E (.a (.s (.a (.a (.a .x5 (.v 8)) (.s .x4 .k1)) .x3) .x2) .x1) (.a (.a (.a (.a (.s (.a (.s (.a (.s (.a .x0 .x3) .x2) .x1) (.k 719162)) .x5) .k1) .x7) (.k 3)) (.k 2)) (.m 7 (.s .x6 (.m 52 .x4)))))))))) _ _ _ _ _ _ _ _ _ _ ht (Om.zdv _ 7 rfl) (Int.mul_ediv_add_emod _ 7) (Int.mul_comm _ _)
 ·rw [if_neg h, if_neg h] at ht
  rw [if_neg (by rw [decide_eq_false (show ¬ ((k : Int) + 1) < 3 by exact (Om.q 2 0 (.i (.L .k1 (.a (.c .x1) .k1)) (.i (.L (.a (.c .x1) .k1) (.k 12)) (.i (.e .x0 .x1) (.i (.n (.t .x1 (.k 2))) (.i (.o (.a (.L .k0 (.s (.a (.c .x1) .k1) .k1)) (.E (.c .x0) (.s (.a (.c .x1) .k1) .k1))) (.a (.T (.s (.a (.c .x1) .k1) .k1) .k0) (.e .x0 .k0))) (.n (.T (.a (.c .x1) .k1) (.k 3))))))))) _ _ h1 h2 e h (Om.tno _))]; decide)]
  rw [show ((k : Int) + 1 + 0 + 1) = (k : Int) + 1 + 1 by exact (Om.q 1 0 (.E (.a (.a (.a (.c .x0) .k1) .k0) .k1) (.a (.a (.c .x0) .k1) .k1))) _] at ht
  generalize 13 * ((k : Int) + 1 + 1) / 5 = c at ht ⊢
  refine mod7 (t := (c - M + L + 719523) / 7 - 52 * y) ?_
  exact (Om.q 0 14 (.i (.E (.a (.s (.v 13) (.v 12)) (.v 11)) (.a (.a (.s (.v 10) (.v 9)) (.v 8)) .x7)) (.i (.E .x6 .k0) (.i (.a (.L (.m 7 .x3) (.a (.a (.s .x5 .x4) .x7) (.k 719523))) (.T (.a (.a (.s .x5 .x4) .x7) (.k 719523)) (.a (.m 7 .x3) (.k 7)))) (.i (.E (.a (.m 7 .x3) .x6) (.a (.a (.s .x5 .x4) .x7) (.k 719523))) (.i (.E .x0 (.m 365 (.s .x1 .k1))) (.E (.a (.s (.a (.a (.a .x2 .x5) .x1) (.v 13)) (.v 12)) (.v 11)) (.a (.a (.a (.a (.s (.a (.s (.a (.s (.a .x0 (.v 10)) (.v 9)) (.v 8)) (.k 719162)) .x2) .k1) .x4) (.k 3)) (.k 2)) (.m 7 (.s .x3 (.m 52 .x1))))))))))) _ _ _ _ _ _ _ _ _ _ _ _ _ _ hs ht (Om.zdv _ 7 rfl) (Int.mul_ediv_add_emod _ 7) (Int.mul_comm _ _)
noncomputable def PL (p : Option MO) (n : Int) : Prop := ∃ cs g s q, p = some (dZ cs g s q) /\ cs.length <= 40 /\ 0 <= q /\ q <= n
theorem PL.at {p : Option MO} {r : List (Option MO)} {n : Int} (h : PL p n) : cK (p :: r) 0 n := by
 obtain ⟨cs, g, s, q, rfl, h⟩ := h
 exact ⟨cs, g, s, q, rfl, h⟩
theorem PL.mono {p : Option MO} {n m : Int} (h : PL p n) (k : n <= m) : PL p m := by
 obtain ⟨cs, g, s, q, rfl, h1, h2, h3⟩ := h
 exact ⟨cs, g, s, q, rfl, h1, h2, by exact (Om.q 0 3 (.i (.L .x2 .x1) (.i (.L .x0 .x2) (.L .x0 .x1)))) _ _ _ k h3⟩
theorem hU {p : Option MO} {r H : List (Option MO)} {n : Int} (h : Pst (p :: r) H 0 n) : ∃ p', H = p' :: r /\ PL p' n := by
 obtain ⟨⟨cs, g, s, q, h1, h2⟩, hl, hj, -⟩ := h
 cases H with
 | nil => simp at h1
 | cons p' r' =>
  refine ⟨p', ?_, cs, g, s, q, by simpa using h1, h2⟩
  congr 1
  apply List.ext_getElem?
  intro j
  have := hj (j + 1) ((Om.q 1 0 (.n (.e (.a .x0 .k1) .k0))) _)
  simpa using this
section
variable {G : Gx} {X : Fx} {σ τ : St} {Ψ : Ps} {Φ : V -> St -> Prop} {ΦF : Fl -> St -> Prop} {l : List (Str × Option V)} {g : List (Str × V)} {q : Option MO} {r : List (Option MO)}
theorem aE (B : Base G) (o : X.Ok G) (hf : X.md = .fr) (hh0 : X.A.handled = none) (hr : 1 <= X.room) {m n : Int} {es : List Expr} {p pos : Pos} (hp : ag es = true) (hg : HasG "_law_draw" (.glob "_law_draw") g) (h2 : PA G X es ⟨l, g, q :: r⟩ [.loc 0, .int m]) (hpl : PL q n) (hn : n <= 1000) (h1 : 0 < m) (hm : m <= 1000000)
  (hok : ∀ d p', 0 <= d -> d < m -> PL p' (n + 1) -> Φ (.int d) ⟨l, g, p' :: r⟩) : EX G X (.Call (.Name "_law_draw" p) es [] pos) Φ Ψ ⟨l, g, q :: r⟩ :=
 e9 B o hf hh0 hr hp hg h2 hpl.at hn h1 hm fun d H h0 h1 hs => by
  obtain ⟨p', e, hp'⟩ := hU hs
  subst e
  exact hok d p' h0 h1 hp'
theorem ex_gapL (B : Base G) (o : X.Ok G) (hf : X.md = .fr) (hh0 : X.A.handled = none) (hr : 2 <= X.room) {n : Int} {es : List Expr} {p pos : Pos} (hp : ag es = true) (hg : HasG "_law_gap" (.glob "_law_gap") g) (h2 : PA G X es ⟨l, g, q :: r⟩ [.loc 0]) (hpl : PL q n) (hn : n <= 900)
  (hok : ∀ w p', w ∈ gaps8 -> PL p' (n + 1) -> Φ (.str w) ⟨l, g, p' :: r⟩) : EX G X (.Call (.Name "_law_gap" p) es [] pos) Φ Ψ ⟨l, g, q :: r⟩ :=
 ex_rp o hp (au o hg) rfl h2 (rp_gap B o hf hh0 hr hpl.at hn) fun v H ⟨w, hw, e, hs⟩ => by
  obtain ⟨p', e', hp'⟩ := hU hs
  subst e; subst e'
  exact hok w p' hw hp'
theorem ex_yearL (B : Base G) (o : X.Ok G) (hf : X.md = .fr) (hh0 : X.A.handled = none) (hr : 2 <= X.room) {n y : Int} {es : List Expr} {p pos : Pos} (hp : ag es = true) (hg : HasG "_law_year" (.glob "_law_year") g) (h2 : PA G X es ⟨l, g, q :: r⟩ [.loc 0, .int y]) (hpl : PL q n) (hn : n <= 900) (hy1 : 1 <= y) (hy2 : y <= 9999)
  (hok : ∀ t p', dG t y -> PL p' (n + 2) -> Φ (.str t) ⟨l, g, p' :: r⟩) : EX G X (.Call (.Name "_law_year" p) es [] pos) Φ Ψ ⟨l, g, q :: r⟩ :=
 ex_rp o hp (au o hg) rfl h2 (rp_year B o hf hh0 hr hpl.at hn hy1 hy2) fun v H ⟨w, hw, e, hs⟩ => by
  obtain ⟨p', e', hp'⟩ := hU hs
  subst e; subst e'
  exact hok w p' hw hp'
theorem ex_zoneL (B : Base G) (o : X.Ok G) (hf : X.md = .fr) (hh0 : X.A.handled = none) (hr : 2 <= X.room) {n : Int} {es : List Expr} {p pos : Pos} (hp : ag es = true) (hg : HasG "_law_zone" (.glob "_law_zone") g) (h2 : PA G X es ⟨l, g, q :: r⟩ [.loc 0]) (hpl : PL q n) (hn : n <= 900)
  (hok : ∀ t z p', cD t z -> PL p' (n + 4) -> Φ (.tup [.str t, .int z]) ⟨l, g, p' :: r⟩) : EX G X (.Call (.Name "_law_zone" p) es [] pos) Φ Ψ ⟨l, g, q :: r⟩ :=
 ex_rp o hp (au o hg) rfl h2 (rp_zone B o hf hh0 hr hpl.at hn) fun v H ⟨t, z, hw, e, hs⟩ => by
  obtain ⟨p', e', hp'⟩ := hU hs
  subst e; subst e'
  exact hok t z p' hw hp'
theorem aT {x : Str} {xp pos : Pos} {e : Expr} {ts : List Stmt} {H : List (Option MO)} (ok : X.Ok G) (hf : X.md = .fr) (hn : notComp e = true) (h : EX G X e (fun d σ1 => ∃ l', Put x d σ1.loc l' /\ SSX G X ts ΦF Ψ ⟨l', σ1.glb, σ1.heap⟩) Ψ ⟨l, g, H⟩) : SSX G X (.Assign [.Name x xp] e pos :: ts) ΦF Ψ ⟨l, g, H⟩ := bb ok hf hn h
noncomputable abbrev lwG : List (Str × V) := [("_law_draw", .glob "_law_draw"), ("_law_figures", .glob "_law_figures"), ("_law_months", .tup (names12.map .str)), ("_law_box", .glob "_law_box"), ("_law_length", .glob "_law_length"), ("_law_days", .tup [.str (S "Sat"), .str (S "Sun"), .str (S "Mon"), .str (S "Tue"), .str (S "Wed"), .str (S "Thu"), .str (S "Fri")]), ("_law_year", .glob "_law_year"), ("_law_zone", .glob "_law_zone"), ("_law_gap", .glob "_law_gap"), ("bytes", .val (.type "bytes")), ("read_date", .glob "read_date"), ("write_date", .glob "write_date"), ("Moment", .glob "Moment"), ("_law_weekday", .glob "_law_weekday"), ("str", .val (.type "str")), ("abs", .val (.builtin "abs")), ("len", .val (.builtin "len")), ("WordFault", .glob "WordFault"), ("tokens_of", .glob "tokens_of"), ("_law_read", .glob "_law_read")]
theorem lwG_gls (B : Base G) : Gls G lwG := by
 refine .cons (av B.f_law_draw) (.cons (av B.f_law_figures) (.cons B.lmonths (.cons (av B.f_law_box) (.cons (av B.f_law_length) (.cons B.ldays (.cons (av B.f_law_year) (.cons (av B.f_law_zone) (.cons (av B.f_law_gap) (.cons B.bytes (.cons (av B.f_read_date) (.cons (av B.f_write_date) (.cons (gl_cls B.Moment) (.cons (av B.f_law_weekday) (.cons B.str (.cons B.abs (.cons B.len (.cons B.word.gls (.cons (av B.f_tokens_of) (.cons (av B.f_law_read) .nil)))))))))))))))))))
theorem lw_ok : fR (dfAt 66).scope lwG = true /\ okLoc (dfAt 66).scope ["pool", "year", "month", "day", "words", "hour", "minute", "script", "is_bent", "name", "second", "clock", "text", "zone", "whole", "word", "octets", "moment", "laid", "due", "at", "piece", "told", "fault", "error", "tokens", "place"] = true /\ cF (dfAt 66).scope = true := by
 refine ⟨by rfl, by rfl, by rfl⟩
end
local macro_rules | `(tactic| walk_at "own") => `(tactic| apply eo <;> walk_at "sd")
noncomputable abbrev lwL (po ye mo da wo ho mi sc be na se cl te zo wh wd oc mt la du at_ pi to fa er tk pl : Option V) : List (Str × Option V) := [("pool", po), ("year", ye), ("month", mo), ("day", da), ("words", wo), ("hour", ho), ("minute", mi), ("script", sc), ("is_bent", be), ("name", na), ("second", se), ("clock", cl), ("text", te), ("zone", zo), ("whole", wh), ("word", wd), ("octets", oc), ("moment", mt), ("laid", la), ("due", du), ("at", at_), ("piece", pi), ("told", to), ("fault", fa), ("error", er), ("tokens", tk), ("place", pl)]
section
variable {G : Gx} {X : Fx} {σ τ : St} {Ψ : Ps} {Φ : V -> St -> Prop} {ΦF : Fl -> St -> Prop} {l : List (Str × Option V)} {g : List (Str × V)} {q : Option MO} {r : List (Option MO)}
theorem fb {e : Expr} {k : Int} {kk : Nat} {kp pos : Pos} (h : EX G X e (fun b σ1 => ∃ d, b = .int d /\ Φ (.int (k + d)) σ1) Ψ σ) : EX G X (.BinOp (.Constant (.int k) kk kp) .Add e pos) Φ Ψ σ := by
 with_reducible refine cI (am aj ?_)
 intro W s R
 refine wpAny_mono (h W s R) (fun v s_1 y => y.mono .rfl fun b σ1 ⟨d, e, h⟩ => ?_) fun _ _ y => y
 subst e
 with_reducible exact iT h
theorem ex_eqk {e : Expr} {k : Int} {kk : Nat} {kp pos : Pos} (h : EX G X e (fun b σ1 => ∃ d, b = .int d /\ Φ (.bool (decide (d = k))) σ1) Ψ σ) : EX G X (.Compare e [.Eq] [.Constant (.int k) kk kp] pos) Φ Ψ σ := by
 refine ex_cmp (by rfl) ?_
 intro W s R
 refine wpAny_mono (h W s R) (fun v s_1 y => y.mono .rfl fun b σ1 ⟨d, e, h⟩ => ?_) fun _ _ y => y
 subst e
 with_reducible exact iG (cmp_eq h)
theorem bM {y m : Int} : 28 <= aB y m /\ aB y m <= 31 := by
 unfold aB
 split
 ·split <;> decide
 ·split <;> decide
theorem law_s1 (B : Base G) (o : X.Ok G) (hf : X.md = .fr) (hh0 : X.A.handled = none) (hr : 12 <= X.room) (hsc : X.scope = (dfAt 66).scope) {ns : List Int} (hz : ns.length <= 1000)
  (hk : ∀ q bent y m d h mi, PL q 20 -> 1 <= y -> y <= 9999 -> 1 <= m -> m <= 12 -> 1 <= d -> d <= aB y m -> 0 <= h -> h <= 23 -> 0 <= mi -> mi <= 59 ->
   SSZ G X ((dfAt 66).body.drop 7) ΦF ⟨lwL (some (.loc 0)) (some (.int y)) (some (.int m)) (some (.int d)) (some (.loc 1)) (some (.int h)) (some (.int mi)) (some (.lst (ns.map .int))) (some (.bool bent)) none none none none none none none none none none none none none none none none none none, lwG, [q, some (.list [])]⟩) :
  SSZ G X (dfAt 66).body ΦF ⟨lwL none none none none none none none (some (.lst (ns.map .int))) none none none none none none none none none none none none none none none none none none none, lwG, []⟩ := by
 refine b9 (ts := (dfAt 66).body.take 7) (us := (dfAt 66).body.drop 7) ?_
 refine aT o hf (by rfl) (ex_rp o (by walk_at "u") (au o (by walk_at "h")) rfl (by walk_at "pe") (rp_box B o hf hh0 (Om.lo hr) hz) fun v H hv => ?_)
 obtain ⟨rfl, cs, g, s, rfl, hcs⟩ := hv
 refine ⟨_, by walk_at "h", ?_⟩
 show SSX G X _ _ _ ⟨lwL (some (.loc 0)) none none none none none none (some (.lst (ns.map .int))) none none none none none none none none none none none none none none none none none none none, lwG, [some (dZ cs g s 0)]⟩
 have hp0 : PL (some (dZ cs g s 0)) 0 := ⟨cs, g, s, 0, rfl, hcs, by decide, by decide⟩
 revert hp0
 generalize some (dZ cs g s 0) = q
 intro hp0
 refine aT o hf (by rfl) (ex_eqk (aE (m := 2) B o hf hh0 (Om.lo hr) (by walk_at "u") (by walk_at "h") (by walk_at "pe") hp0 (by decide) (by decide) (by decide) fun d q1 h0 h1 hp1 => ⟨d, rfl, _, by walk_at "h", ?_⟩))
 refine aT o hf (by rfl) (dL (iB (by rfl) (by rfl) (fb (aE (m := 200) B o hf hh0 (Om.lo hr) (by walk_at "u") (by walk_at "h") (by walk_at "pe") hp1 (by decide) (by decide) (by decide) fun da q2 a0 a1 hp2 => ⟨da, rfl, ?_⟩))))
 with_reducible refine fb (aE (m := 9999) B o hf hh0 (Om.lo hr) (by walk_at "u") (by walk_at "h") (by walk_at "pe") hp2 (by decide) (by decide) (by decide) fun db q3 b0 b1 hp3 => ⟨db, rfl, ?_⟩)
 with_reducible refine aE (m := 2) B o hf hh0 (Om.lo hr) (by walk_at "u") (by walk_at "h") (by walk_at "pe") hp3 (by decide) (by decide) (by decide) fun dc q4 c0 c1 hp4 => ?_
 obtain ⟨y, hy, y1, y2⟩ : ∃ y, ([V.int (1900 + da), V.int (1 + db)])[dc.toNat]? = some (.int y) /\ 1 <= y /\ y <= 9999 := by
  have : dc = 0 \/ dc = 1 := by exact (Om.q 0 1 .f6) _ c0 c1
  rcases this with rfl | rfl
  ·exact ⟨_, rfl, by exact (Om.q 0 1 (.i (.L .k0 .x0) (.i (.T .x0 (.k 200)) (.L .k1 (.a (.k 1900) .x0))))) _ a0 a1, by exact (Om.q 0 1 (.i (.L .k0 .x0) (.i (.T .x0 (.k 200)) (.L (.a (.k 1900) .x0) (.k 9999))))) _ a0 a1⟩
  ·exact ⟨_, rfl, by exact (Om.q 0 1 (.i (.L .k0 .x0) (.i (.T .x0 (.k 9999)) (.L .k1 (.a .k1 .x0))))) _ b0 b1, by exact (Om.q 0 1 (.i (.L .k0 .x0) (.i (.T .x0 (.k 9999)) (.L (.a .k1 .x0) (.k 9999))))) _ b0 b1⟩
 refine ga o c0 (by simp) hy ⟨_, by walk_at "h", ?_⟩
 refine aT o hf (by rfl) (fb (aE (m := 12) B o hf hh0 (Om.lo hr) (by walk_at "u") (by walk_at "h") (by walk_at "pe") hp4 (by decide) (by decide) (by decide) fun dm q5 m0 m1 hp5 => ⟨dm, rfl, _, by walk_at "h", ?_⟩))
 obtain ⟨m, hm⟩ : ∃ m, m = 1 + dm := ⟨_, rfl⟩
 rw [<- hm]
 have e1 : 1 <= m := by exact (Om.q 0 2 (.i (.L .k0 .x1) (.i (.T .x1 (.k 12)) (.i (.E .x0 (.a .k1 .x1)) (.L .k1 .x0))))) _ _ m0 m1 hm
 have e2 : m <= 12 := by exact (Om.q 0 2 (.i (.L .k0 .x1) (.i (.T .x1 (.k 12)) (.i (.E .x0 (.a .k1 .x1)) (.L .x0 (.k 12)))))) _ _ m0 m1 hm
 have hml := bM (y := y) (m := m)
 refine aT o hf (by rfl) (fb (aE (m := aB y m) B o hf hh0 (Om.lo hr) (by walk_at "u") (by walk_at "h") (by walk_at "pe") hp5 (by decide) ((Om.q 0 1 (.i (.a (.L (.k 28) .x0) (.L .x0 (.k 31))) (.T .k0 .x0))) _ hml) ((Om.q 0 1 (.i (.a (.L (.k 28) .x0) (.L .x0 (.k 31))) (.L .x0 (.k 1000000)))) _ hml) fun dd q6 d0 d1 hp6 => ⟨dd, rfl, _, by walk_at "h", ?_⟩))
 refine ay (sx_swap (xs := ["hour", "minute"]) o hf hh0 (fun _ => by walk_at "u") (by rw [dD hf]; unfold Fx.fenv; rw [hsc]; with_unfolding_all rfl) (iB (by rfl) (by rfl) (aE (m := 24) B o hf hh0 (Om.lo hr) (by walk_at "u") (by walk_at "h") (by walk_at "pe") hp6 (by decide) (by decide) (by decide) fun dh q7 h0 h1 hp7 => ?_)))
 refine aE (m := 60) B o hf hh0 (Om.lo hr) (by walk_at "u") (by walk_at "h") (by walk_at "pe") hp7 (by decide) (by decide) (by decide) fun di q8 i0 i1 hp8 => ⟨_, _, rfl, rfl, Puts.cons (by walk_at "h") (Puts.cons (by walk_at "h") Puts.nil), ?_⟩
 refine aT o hf (by rfl) (cG pa_nil (by decide) ⟨_, by walk_at "h", aa ?_⟩)
 exact hk q8 _ y m (1 + dd) dh di (hp8.mono (by decide)) y1 y2 e1 e2 ((Om.q 0 1 (.i (.L .k0 .x0) (.L .k1 (.a .k1 .x0)))) _ d0) ((Om.q 0 2 (.i (.T .x1 .x0) (.L (.a .k1 .x1) .x0))) _ _ d1) h0 ((Om.q 0 1 (.i (.L .k0 .x0) (.i (.T .x0 (.k 24)) (.L .x0 (.k 23))))) _ h0 h1) i0 ((Om.q 0 1 (.i (.L .k0 .x0) (.i (.T .x0 (.k 60)) (.L .x0 (.k 59))))) _ i0 i1)
end
noncomputable def days7 : List (List Nat) := [S "Sat", S "Sun", S "Mon", S "Tue", S "Wed", S "Thu", S "Fri"]
noncomputable def dayW (ws : List (List Nat)) : Prop := ws = [] \/ ∃ nm ∈ days7, ∃ c ∈ [S ",", S " ,", S ""], ws = [nm ++ c] \/ ws = [lowL nm ++ c]
noncomputable def numW (d : Int) (t : List Nat) : Prop := t = padI d 1 \/ t = padI d 2
noncomputable def monW (m : Int) (t : List Nat) : Prop := t = ak m \/ t = uppL (ak m)
noncomputable def clockW (h mi s : Int) (t : List Nat) : Prop := ∃ sep ∈ [S ":", S " : "], (s = 0 /\ t = aX sep [padI h 2, padI mi 2]) \/ t = aX sep [padI h 2, padI mi 2, padI s 2]
theorem days7_ok : ∀ k ∈ days7, k.length <= 3 /\ (lowL k).length <= 3 /\ ∀ c ∈ k, c < 256 := by decide +kernel
section
variable {G : Gx} {X : Fx} {σ τ : St} {Ψ : Ps} {Φ : V -> St -> Prop} {ΦF : Fl -> St -> Prop} {l : List (Str × Option V)} {g : List (Str × V)} {q : Option MO} {r : List (Option MO)}
theorem li {oe ae : Expr} {apos pos : Pos} {i : Nat} {ds : List V} (o : X.Ok G) (hp : ag [ae] = true)
  (he : ∃ pl : Env -> Sem Bool, ∀ env, eval (.Call (.Attribute oe "append" apos) [ae] [] pos) env = (do
   let ov <- eval oe env
   standAt apos.atName
   let (f, first) <- holding [ov] (getMethod ov "append" (pl env))
   callWith pos f first (backTo pos (starEach [ae] env)) (backToKw pos (keywordEach [] env))))
  (h1 : PE G X oe σ (.loc i)) (hi : σ.heap[i]? = some (some (.list ds))) (h : EX G X ae (fun d σ1 => ∃ ds, σ1.heap[i]? = some (some (.list ds)) /\ ds.length <= 1000000 /\ Φ .none { σ1 with heap := σ1.heap.set i (some (.list (ds ++ [d]))) }) Ψ σ) : EX G X (.Call (.Attribute oe "append" apos) [ae] [] pos) Φ Ψ σ := by
 with_reducible refine bP o hp he (am h1 ⟨_, _, rfl, iy hi, fun q => bX (by simp [ag] at hp; exact hp) ?_⟩)
 intro W s R
 refine wpAny_mono (h W s R) (fun v s_1 y => y.mono .rfl fun d σ1 ⟨ds, h2, h3, h4⟩ => ?_) fun _ _ y => y
 with_reducible exact eF (gh h2 h3 h4)
theorem dS {ae : Expr} {np apos cpos pos : Pos} {ts : List Stmt} {ws : List V} (o : X.Ok G) (hf : X.md = .fr) (hp : ag [ae] = true)
  (he : ∃ pl : Env -> Sem Bool, ∀ env, eval (.Call (.Attribute (.Name "words" np) "append" apos) [ae] [] cpos) env = (do
   let ov <- eval (.Name "words" np) env
   standAt apos.atName
   let (f, first) <- holding [ov] (getMethod ov "append" (pl env))
   callWith cpos f first (backTo cpos (starEach [ae] env)) (backToKw cpos (keywordEach [] env))))
  (hw : PE G X (.Name "words" np) ⟨l, g, q :: some (.list ws) :: r⟩ (.loc 1)) (hz : ws.length <= 1000)
  (h : EX G X ae (fun d σ1 => ∃ q', σ1 = ⟨l, g, q' :: some (.list ws) :: r⟩ /\ SSX G X ts ΦF Ψ ⟨l, g, q' :: some (.list (ws ++ [d])) :: r⟩) Ψ ⟨l, g, q :: some (.list ws) :: r⟩) :
  SSX G X (.Expr (.Call (.Attribute (.Name "words" np) "append" apos) [ae] [] cpos) pos :: ts) ΦF Ψ ⟨l, g, q :: some (.list ws) :: r⟩ := by
 refine bI o hf (by rfl) (li (i := 1) (ds := ws) o hp he hw rfl ?_)
 intro W s R
 refine wpAny_mono (h W s R) (fun v s_1 y => y.mono .rfl fun d σ1 ⟨q', e, h4⟩ => ?_) fun _ _ y => y
 subst e
 exact ⟨ws, rfl, by exact Om.hi hz, h4⟩
inductive DayI (sc be : Option V) (y m d h mi : Int) (τ : St) : Prop
 | mk (q : Option MO) (ws : List (List Nat)) (na : Option V) (e : τ = ⟨lwL (some (.loc 0)) (some (.int y)) (some (.int m)) (some (.int d)) (some (.loc 1)) (some (.int h)) (some (.int mi)) sc be na none none none none none none none none none none none none none none none none none, lwG, [q, some (.list (ws.map .str))]⟩) (hp : PL q 24) (hd : dayW ws)
theorem law_s2 (B : Base G) (o : X.Ok G) (hf : X.md = .fr) (hh0 : X.A.handled = none) (hr : 12 <= X.room) {sc be : Option V} {y m d h mi : Int} (hp : PL q 20)
  (hk : ∀ q ws na, PL q 24 -> dayW ws -> SSZ G X ((dfAt 66).body.drop 8) ΦF ⟨lwL (some (.loc 0)) (some (.int y)) (some (.int m)) (some (.int d)) (some (.loc 1)) (some (.int h)) (some (.int mi)) sc be na none none none none none none none none none none none none none none none none none, lwG, [q, some (.list (ws.map .str))]⟩) :
  SSZ G X ((dfAt 66).body.drop 7) ΦF ⟨lwL (some (.loc 0)) (some (.int y)) (some (.int m)) (some (.int d)) (some (.loc 1)) (some (.int h)) (some (.int mi)) sc be none none none none none none none none none none none none none none none none none none, lwG, [q, some (.list [])]⟩ := by
 refine b9 (ts := ((dfAt 66).body.drop 7).take 1) (us := (dfAt 66).body.drop 8) ?_
 refine ss_ifxP (DayI sc be y m d h mi) ?_ (fun τ ⟨q, ws, na, e, hq, hw⟩ => aa (by subst e; exact hk q ws na hq hw))
 refine tx_gti (aE (m := 3) B o hf hh0 (Om.lo hr) (by walk_at "u") (by walk_at "h") (by walk_at "pe") hp (by decide) (by decide) (by decide) fun d0 q1 h0 h1 hp1 => ⟨d0, rfl, fun _ => ?_, fun _ => aa ⟨rfl, q1, [], none, rfl, hp1.mono (by decide), .inl rfl⟩⟩)
 refine aT o hf (by rfl) (cu (ds := [.str (S "Sat"), .str (S "Sun"), .str (S "Mon"), .str (S "Tue"), .str (S "Wed"), .str (S "Thu"), .str (S "Fri")]) o (au o (by walk_at "h")) (by decide) (aE (m := 7) B o hf hh0 (Om.lo hr) (by walk_at "u") (by walk_at "h") (by walk_at "pe") hp1 (by decide) (by decide) (by decide) fun d1 q2 a0 a1 hp2 => ?_))
 have hl : d1.toNat < days7.length := by show d1.toNat < 7; exact (Om.q 1 1 .f78) _ _ a0 a1 (Om.tno _)
 refine ⟨d1, .str (days7[d1.toNat]'hl), rfl, a0, by show (days7.map V.str)[d1.toNat]? = _; rw [List.getElem?_map, List.getElem?_eq_getElem hl]; rfl, ?_⟩
 have hm := List.getElem_mem hl
 revert hm
 obtain ⟨nm, hnm⟩ : ∃ y, days7[d1.toNat] = y := ⟨_, rfl⟩
 rw [hnm]
 intro hm
 obtain ⟨k1, k2, k3⟩ := days7_ok nm hm
 have k1' : nm.length <= 1000000 := by exact Om.hi k1
 refine ⟨_, by walk_at "h", ?_⟩
 with_reducible refine dS (ws := []) o hf (by walk_at "u") ⟨_, fun _ => by walk_at "u"⟩ (by walk_at "pe") (by decide) ?_
 with_reducible refine cI (cu (ds := [.str nm, .str (lowL nm)]) o (by walk_at "pe") (by simp) (aE (m := 2) B o hf hh0 (Om.lo hr) (by walk_at "u") (by walk_at "h") (by walk_at "pe") hp2 (by decide) (by decide) (by decide) fun d2 q3 b0 b1 hp3 => ?_))
 obtain ⟨t, ht, hts, htl⟩ : ∃ t, ([V.str nm, V.str (lowL nm)])[d2.toNat]? = some (.str t) /\ (t = nm \/ t = lowL nm) /\ t.length <= 3 := by
  have : d2 = 0 \/ d2 = 1 := by exact (Om.q 0 1 .f6) _ b0 b1
  rcases this with rfl | rfl
  ·exact ⟨_, rfl, .inl rfl, k1⟩
  ·exact ⟨_, rfl, .inr rfl, k2⟩
 refine ⟨d2, _, rfl, b0, ht, ?_⟩
 with_reducible refine cu (ds := [.str (S ","), .str (S " ,"), .str (S "")]) o (ef (by walk_at "u") (by decide)) (by decide) (aE (m := 3) B o hf hh0 (Om.lo hr) (by walk_at "u") (by walk_at "h") (by walk_at "pe") hp3 (by decide) (by decide) (by decide) fun d3 q4 c0 c1 hp4 => ?_)
 obtain ⟨c, hc, hcs, hcl⟩ : ∃ c, ([V.str (S ","), .str (S " ,"), .str (S "")])[d3.toNat]? = some (.str c) /\ c ∈ [S ",", S " ,", S ""] /\ c.length <= 2 := by
  have : d3 = 0 \/ d3 = 1 \/ d3 = 2 := by exact (Om.q 0 1 (.i (.L .k0 .x0) (.i (.T .x0 (.k 3)) (.o (.E .x0 .k0) (.o (.E .x0 .k1) (.E .x0 (.k 2))))))) _ c0 c1
  rcases this with rfl | rfl | rfl
  ·exact ⟨_, rfl, by simp, by decide⟩
  ·exact ⟨_, rfl, by simp, by decide⟩
  ·exact ⟨_, rfl, by simp, by decide⟩
 refine ⟨d3, _, rfl, c0, hc, cz ((Om.q 2 0 (.i (.l .x1 (.k 3)) (.i (.l .x0 (.k 2)) (.l (.a .x1 .x0) (.k 1000000))))) _ _ htl hcl) ⟨q4, rfl, aa ⟨rfl, q4, [t ++ c], _, rfl, hp4, .inr ⟨nm, hm, c, hcs, ?_⟩⟩⟩⟩
 rcases hts with rfl | rfl
 ·exact .inl rfl
 ·exact .inr rfl
end
structure Said (ws : List (List Nat)) (y m d h mi s z : Int) : Prop where
 ex : ∃ dw t1 t2 t3 t4 t5, dayW dw /\ numW d t1 /\ monW m t2 /\ dG t3 y /\ clockW h mi s t4 /\ cD t5 z /\ ws = dw ++ [t1, t2, t3, t4, t5]
section
variable {G : Gx} {X : Fx} {σ τ : St} {Ψ : Ps} {Φ : V -> St -> Prop} {ΦF : Fl -> St -> Prop} {l : List (Str × Option V)} {g : List (Str × V)} {q : Option MO} {r : List (Option MO)}
theorem ex_fig (B : Base G) (o : X.Ok G) (hr : 1 <= X.room) {a e : Expr} {p pos : Pos} {n : Int} (hp : ag [a, e] = true) (hg : HasG "_law_figures" (.glob "_law_figures") σ.glb) (ha : noStar a = true) (he : noStar e = true) (h1 : PE G X a σ (.int n)) (h0 : 0 <= n) (hn : n < 10 ^ 9)
  (h : EX G X e (fun b σ1 => ∃ w, b = .int w /\ 0 <= w /\ w <= 100 /\ Φ (.str (padI n w)) σ1) Ψ σ) : EX G X (.Call (.Name "_law_figures" p) [a, e] [] pos) Φ Ψ σ := by
 with_reducible refine cv o hp (am (au o hg) ⟨rfl, fun q => bX ha (am h1 (bX he ?_))⟩)
 intro W s R
 refine wpAny_mono (h W s R) (fun v s_1 y => y.mono .rfl fun b σ1 ⟨w, e, w0, w1, h⟩ => ?_) fun _ _ y => y
 subst e
 with_reducible exact eF (eB (eo B o hr h0 hn w0 w1) h)
theorem mon_get {m : Int} (h1 : 1 <= m) (h2 : m <= 12) : (names12.map V.str)[(m - 1).toNat]? = some (.str (ak m)) := by
 have : m = 1 \/ m = 2 \/ m = 3 \/ m = 4 \/ m = 5 \/ m = 6 \/ m = 7 \/ m = 8 \/ m = 9 \/ m = 10 \/ m = 11 \/ m = 12 := by exact (Om.q 0 1 (.i (.L .k1 .x0) (.i (.L .x0 (.k 12)) (.o (.E .x0 .k1) (.o (.E .x0 (.k 2)) (.o (.E .x0 (.k 3)) (.o (.E .x0 (.k 4)) (.o (.E .x0 (.k 5)) (.o (.E .x0 (.k 6)) (.o (.E .x0 (.k 7)) (.o (.E .x0 (.k 8)) (.o (.E .x0 (.k 9)) (.o (.E .x0 (.k 10)) (.o (.E .x0 (.k 11)) (.E .x0 (.k 12)))))))))))))))) _ h1 h2
 rcases this with rfl | rfl | rfl | rfl | rfl | rfl | rfl | rfl | rfl | rfl | rfl | rfl <;> rfl
inductive SecI (sc be na : Option V) (y m d h mi : Int) (dw : List (List Nat)) (t1 t2 t3 : List Nat) (τ : St) : Prop
 | mk (q : Option MO) (s : Int) (ck : List (List Nat)) (e : τ = ⟨lwL (some (.loc 0)) (some (.int y)) (some (.int m)) (some (.int d)) (some (.loc 1)) (some (.int h)) (some (.int mi)) sc be na (some (.int s)) (some (.loc 2)) none none none none none none none none none none none none none none none, lwG, [q, some (.list (dw.map V.str ++ [.str t1] ++ [.str t2] ++ [.str t3])), some (.list (ck.map .str))]⟩) (hp : PL q 40) (s0 : 0 <= s) (s1 : s <= 60) (hc : (s = 0 /\ ck = [padI h 2, padI mi 2]) \/ ck = [padI h 2, padI mi 2, padI s 2])
theorem law_s3 (B : Base G) (o : X.Ok G) (hf : X.md = .fr) (hh0 : X.A.handled = none) (hr : 12 <= X.room) {sc be na : Option V} {y m d h mi : Int} {dw : List (List Nat)} (hp : PL q 24) (hdw : dayW dw) (hdl : dw.length <= 1) (y1 : 1 <= y) (y2 : y <= 9999) (m1 : 1 <= m) (m2 : m <= 12) (d1 : 1 <= d) (d2 : d <= 31) (h1 : 0 <= h) (h2 : h <= 23) (i1 : 0 <= mi) (i2 : mi <= 59)
  (hk : ∀ q ws s z te cl, PL q 60 -> 0 <= s -> s <= 60 -> Said ws y m d h mi s z -> SSZ G X ((dfAt 66).body.drop 18) ΦF ⟨lwL (some (.loc 0)) (some (.int y)) (some (.int m)) (some (.int d)) (some (.loc 1)) (some (.int h)) (some (.int mi)) sc be na (some (.int s)) (some (.loc 2)) te (some (.int z)) (some (.str [])) none none none none none none none none none none none none, lwG, [q, some (.list (ws.map .str)), cl]⟩) :
  SSZ G X ((dfAt 66).body.drop 8) ΦF ⟨lwL (some (.loc 0)) (some (.int y)) (some (.int m)) (some (.int d)) (some (.loc 1)) (some (.int h)) (some (.int mi)) sc be na none none none none none none none none none none none none none none none none none, lwG, [q, some (.list (dw.map .str))]⟩ := by
 have hdl' : (dw.map V.str).length <= 1 := by simpa using hdl
 refine b9 (ts := ((dfAt 66).body.drop 8).take 10) (us := (dfAt 66).body.drop 18) ?_
 refine dS o hf (by walk_at "u") ⟨_, fun _ => by walk_at "u"⟩ (by walk_at "pe") (Om.hi hdl') (ex_fig B o (Om.lo hr) (by walk_at "u") (by walk_at "h") (by rfl) (by rfl) (n := d) (by walk_at "pe") ((Om.q 0 1 .f12) _ d1 d2) ((Om.q 0 1 .f47) _ d1 d2) (fb (aE (m := 2) B o hf hh0 (Om.lo hr) (by walk_at "u") (by walk_at "h") (by walk_at "pe") hp (by decide) (by decide) (by decide) fun e1 q1 a0 a1 hp1 => ⟨e1, rfl, 1 + e1, rfl, by exact (Om.q 0 1 (.i (.L .k0 .x0) (.i (.T .x0 (.k 2)) (.L .k0 (.a .k1 .x0))))) _ a0 a1, by exact (Om.q 0 1 (.i (.L .k0 .x0) (.i (.T .x0 (.k 2)) (.L (.a .k1 .x0) (.k 100))))) _ a0 a1, q1, rfl, ?_⟩)))
 have n1 : numW d (padI d (1 + e1)) := by
  have : e1 = 0 \/ e1 = 1 := by exact (Om.q 0 1 .f6) _ a0 a1
  rcases this with rfl | rfl
  ·exact .inl rfl
  ·exact .inr rfl
 revert n1
 obtain ⟨t1, ht1⟩ : ∃ y, padI d (1 + e1) = y := ⟨_, rfl⟩
 rw [ht1]
 intro n1
 have hmg := mon_get m1 m2
 obtain ⟨ml, mc⟩ := cm m1 m2
 have mc' : ∀ c ∈ ak m, c < 256 := fun c hc => by have := mc c hc; exact (Om.q 1 0 (.i (.t .x0 (.k 128)) (.t .x0 (.k 256)))) _ this
 have ml' : (ak m).length <= 1000000 := by exact Om.hi ml
 refine dS o hf (by walk_at "u") ⟨_, fun _ => by walk_at "u"⟩ (by walk_at "pe") (by simp; exact Om.hi hdl) (cu (ds := [.str (ak m), .str (uppL (ak m))]) o ?_ (by simp) (aE (m := 2) B o hf hh0 (Om.lo hr) (by walk_at "u") (by walk_at "h") (by walk_at "pe") hp1 (by decide) (by decide) (by decide) fun e2 q2 b0 b1 hp2 => ?_))
 ·refine bU (ah (by walk_at "u") (ar (by walk_at "pe") (by walk_at "pe") (pg_t o (by exact (Om.q 0 1 .f10) _ m1 m2) (by decide) hmg)) (ah (by walk_at "u") ?_ pa_nil)) (by simp)
  refine aI (by assumption) (by walk_at "u") ⟨_, fun _ => by walk_at "u"⟩ (ar (by walk_at "pe") (by walk_at "pe") (pg_t o (by exact (Om.q 0 1 .f10) _ m1 m2) (by decide) hmg)) gm_upper rfl pa_nil (gA mc' ml')
 obtain ⟨t2, ht2, n2⟩ : ∃ t, ([V.str (ak m), V.str (uppL (ak m))])[e2.toNat]? = some (.str t) /\ monW m t := by
  have : e2 = 0 \/ e2 = 1 := by exact (Om.q 0 1 .f6) _ b0 b1
  rcases this with rfl | rfl
  ·exact ⟨_, rfl, .inl rfl⟩
  ·exact ⟨_, rfl, .inr rfl⟩
 refine ⟨e2, _, rfl, b0, ht2, q2, rfl, ?_⟩
 refine dS o hf (by walk_at "u") ⟨_, fun _ => by walk_at "u"⟩ (by walk_at "pe") (by simp; exact Om.hi hdl) (ex_yearL B o hf hh0 (Om.lo hr) (by walk_at "u") (by walk_at "h") (by walk_at "pe") hp2 (by decide) y1 y2 fun t3 q3 n3 hp3 => ⟨q3, rfl, ?_⟩)
 refine ax (d := .int 0) o hf (by rfl) (by walk_at "pe") (by walk_at "h") ?_
 have u1 : h < 10 ^ 9 := by exact (Om.q 0 1 .f13) _ h1 h2
 have u2 : mi < 10 ^ 9 := by exact (Om.q 0 1 .f14) _ i1 i2
 refine aT o hf (by rfl) (cG (ds := [.str (padI h 2), .str (padI mi 2)]) (by walk_at "pe") (by simp) ⟨_, by walk_at "h", ?_⟩)
 show SSX G X _ _ _ ⟨lwL (some (.loc 0)) (some (.int y)) (some (.int m)) (some (.int d)) (some (.loc 1)) (some (.int h)) (some (.int mi)) sc be na (some (.int 0)) (some (.loc 2)) none none none none none none none none none none none none none none none, lwG, [q3, some (.list (dw.map V.str ++ [.str t1] ++ [.str t2] ++ [.str t3])), some (.list [.str (padI h 2), .str (padI mi 2)])]⟩
 refine ss_ifxP (SecI sc be na y m d h mi dw t1 t2 t3) ?_ ?_
 ·with_reducible refine tx_gti (aE (m := 4) B o hf hh0 (Om.lo hr) (by walk_at "u") (by walk_at "h") (by walk_at "pe") hp3 (by decide) (by decide) (by decide) fun e3 q4 c0 c1 hp4 => ⟨e3, rfl, fun _ => ?_, fun _ => aa ⟨rfl, q4, 0, _, rfl, hp4.mono (by decide), by decide, by decide, .inl ⟨rfl, rfl⟩⟩⟩)
  refine aT o hf (by rfl) (aE (m := 61) B o hf hh0 (Om.lo hr) (by walk_at "u") (by walk_at "h") (by walk_at "pe") hp4 (by decide) (by decide) (by decide) fun s q5 s0 s1 hp5 => ⟨_, by walk_at "h", ?_⟩)
  have u3 : s < 10 ^ 9 := by exact (Om.q 0 1 (.i (.L .k0 .x0) (.i (.T .x0 (.k 61)) (.T .x0 (.k 1000000000))))) _ s0 s1
  refine bI o hf (by rfl) (cY (i := 2) (ds := [.str (padI h 2), .str (padI mi 2)]) (d := .str (padI s 2)) o (by rfl) ⟨_, fun _ => by walk_at "u"⟩ (by walk_at "pe") (by walk_at "pe") rfl (by simp) (aa ?_))
  exact ⟨rfl, q5, s, [padI h 2, padI mi 2, padI s 2], rfl, hp5.mono (by decide), s0, by exact (Om.q 0 1 (.i (.L .k0 .x0) (.i (.T .x0 (.k 61)) (.L .x0 (.k 60))))) _ s0 s1, .inr rfl⟩
 ·rintro τ ⟨q5, s, ck, rfl, hp5, s0, s1, hck⟩
  have l1 := aG (w := 2) h1 u1 (by decide)
  have l2 := aG (w := 2) i1 u2 (by decide)
  have l3 := aG (w := 2) s0 ((Om.q 0 1 .f15) _ s0 s1) (by decide)
  have hcl : ck.length <= 100000 /\ ck.flatten.length <= 1000000 := by
   rcases hck with ⟨-, rfl⟩ | rfl
   ·simp; exact (Om.q 2 0 (.i (.l .x1 (.k 111)) (.i (.l .x0 (.k 111)) (.l (.a .x1 .x0) (.k 1000000))))) _ _ l1 l2
   ·simp; exact (Om.q 3 0 .f92) _ _ _ l1 l2 l3
  refine dS o hf (by walk_at "u") ⟨_, fun _ => by walk_at "u"⟩ (by walk_at "pe") (by simp; exact Om.hi hdl) (bP o (by walk_at "u") ⟨_, fun _ => by walk_at "u"⟩ (cu (ds := [.str (S ":"), .str (S " : ")]) o (ef (by walk_at "u") (by decide)) (by decide) (aE (m := 2) B o hf hh0 (Om.lo hr) (by walk_at "u") (by walk_at "h") (by walk_at "pe") hp5 (by decide) (by decide) (by decide) fun e5 q6 g0 g1 hp6 => ?_)))
  obtain ⟨sep, hsep, hsi, hsl⟩ : ∃ sep, ([V.str (S ":"), .str (S " : ")])[e5.toNat]? = some (.str sep) /\ sep ∈ [S ":", S " : "] /\ sep.length <= 10 := by
   have : e5 = 0 \/ e5 = 1 := by exact (Om.q 0 1 .f6) _ g0 g1
   rcases this with rfl | rfl
   ·exact ⟨_, rfl, by simp, by decide⟩
   ·exact ⟨_, rfl, by simp, by decide⟩
  refine ⟨e5, _, rfl, g0, hsep, _, _, rfl, dn, fun q => cQ (vs := [.loc 2]) (by walk_at "pe") (eB (pc_joinl (bs := ck) rfl hsl hcl.1 hcl.2) ⟨q6, rfl, ?_⟩)⟩
  have n4 : clockW h mi s (aX sep ck) := ⟨sep, hsi, by
   rcases hck with ⟨rfl, rfl⟩ | rfl
   ·exact .inl ⟨rfl, rfl⟩
   ·exact .inr rfl⟩
  revert n4
  obtain ⟨t4, ht4⟩ : ∃ y, aX sep ck = y := ⟨_, rfl⟩
  rw [ht4]
  intro n4
  refine br o hf hh0 (by walk_at "u") (fun _ => by walk_at "u") (fun _ => by walk_at "u") (ex_zoneL B o hf hh0 (Om.lo hr) (by walk_at "u") (by walk_at "h") (by walk_at "pe") hp6 (by decide) fun t5 z q7 n5 hp7 => ⟨_, _, rfl, rfl, by walk_at "h", ?_⟩)
  refine dS o hf (by walk_at "u") ⟨_, fun _ => by walk_at "u"⟩ (by walk_at "pe") (by simp; exact Om.hi hdl) (am (v := .str t5) (by walk_at "pe") ⟨q7, rfl, ?_⟩)
  refine ax (d := .str (S "")) o hf (by rfl) (by walk_at "pe") (by walk_at "h") (aa ?_)
  rw [S_e]
  have := hk q7 (dw ++ [t1, t2, t3, t4, t5]) s z (some (.str t5)) (some (.list (ck.map .str))) (hp7.mono (by decide)) s0 s1 ⟨dw, t1, t2, t3, t4, t5, hdw, n1, n2, n3, n4, n5, rfl⟩
  simpa using this
end
noncomputable def encB (w : List Nat) : List UInt8 := w.map fun c => c.toUInt8
inductive Glue : List (List Nat) -> List Nat -> Prop
 | nil : Glue [] []
 | first {ws : List (List Nat)} {t : List Nat} (h : Glue ws []) : Glue (ws ++ [t]) t
 | more {ws : List (List Nat)} {w g t : List Nat} (h : Glue ws w) (hw : w ≠ []) (hg : g ∈ gaps8) : Glue (ws ++ [t]) (w ++ g ++ t)
noncomputable def okW (t : List Nat) : Prop := t ≠ [] /\ t.length <= 400 /\ ∀ c ∈ t, c < 128
theorem gaps8_ok : ∀ g ∈ gaps8, g ≠ [] /\ g.length <= 10 /\ ∀ c ∈ g, c < 128 := by decide +kernel
theorem dayW_ok : ∀ nm ∈ days7, ∀ c ∈ [S ",", S " ,", S ""], ((nm ++ c) ≠ [] /\ (nm ++ c).length <= 400 /\ ∀ x ∈ nm ++ c, x < 128) /\ ((lowL nm ++ c) ≠ [] /\ (lowL nm ++ c).length <= 400 /\ ∀ x ∈ lowL nm ++ c, x < 128) := by decide +kernel
theorem names12_w : ∀ nm ∈ names12, (nm ≠ [] /\ nm.length <= 400 /\ ∀ x ∈ nm, x < 128) /\ (uppL nm ≠ [] /\ (uppL nm).length <= 400 /\ ∀ x ∈ uppL nm, x < 128) := by decide +kernel
theorem zones13_w : ∀ nm ∈ zones13.map (·.1), (nm ≠ [] /\ nm.length <= 400 /\ ∀ x ∈ nm, x < 128) /\ (uppL nm ≠ [] /\ (uppL nm).length <= 400 /\ ∀ x ∈ uppL nm, x < 128) := by decide +kernel
theorem figs_ne (n : Nat) : figs n ≠ [] := by
 unfold figs
 simp [Nat.toDigits_ne_nil]
theorem cO {n w : Int} (h0 : 0 <= n) (h1 : n < 10 ^ 9) (hw : w <= 100) : padI n w ≠ [] /\ (padI n w).length <= 111 /\ ∀ c ∈ padI n w, c < 128 := by
 refine ⟨?_, aG h0 h1 hw, fun c hc => by have := aU c hc; exact (Om.q 1 0 .f3) _ this⟩
 unfold padI
 intro e
 exact figs_ne _ (List.append_eq_nil_iff.mp e).2
theorem okW_mem {ws : List (List Nat)} {y m d h mi s z : Int} (S0 : Said ws y m d h mi s z) (y1 : 1 <= y) (y2 : y <= 9999) (m1 : 1 <= m) (m2 : m <= 12) (d1 : 1 <= d) (d2 : d <= 31) (h1 : 0 <= h) (h2 : h <= 23) (i1 : 0 <= mi) (i2 : mi <= 59) (s1 : 0 <= s) (s2 : s <= 60) : ws.length <= 6 /\ ∀ t ∈ ws, okW t := by
 obtain ⟨dw, t1, t2, t3, t4, t5, n0, n1, n2, n3, n4, n5, rfl⟩ := S0.ex
 have k0 : dw.length <= 1 /\ ∀ t ∈ dw, okW t := by
  rcases n0 with rfl | ⟨nm, hm, c, hc, rfl | rfl⟩
  ·exact ⟨by simp, fun t ht => nomatch ht⟩
  ·exact ⟨by simp, fun t ht => by rw [List.mem_singleton.mp ht]; exact (dayW_ok nm hm c hc).1⟩
  ·exact ⟨by simp, fun t ht => by rw [List.mem_singleton.mp ht]; exact (dayW_ok nm hm c hc).2⟩
 have pad : ∀ {n w : Int}, 0 <= n -> n < 10 ^ 9 -> w <= 100 -> okW (padI n w) := fun a b c => let ⟨x, y, z⟩ := cO a b c; ⟨x, by exact Om.hi y, z⟩
 have k1 : okW t1 := by rcases n1 with rfl | rfl <;> exact pad ((Om.q 0 1 .f12) _ d1 d2) ((Om.q 0 1 .f47) _ d1 d2) (by decide)
 have k2 : okW t2 := by
  have hm : ak m ∈ names12 := dK (by show _ < 12; exact (Om.q 1 1 .f9) _ _ m1 m2 (Om.tno _))
  rcases n2 with rfl | rfl
  ·exact (names12_w _ hm).1
  ·exact (names12_w _ hm).2
 have k3 : okW t3 := by
  rcases n3 with ⟨_, _, rfl⟩ | ⟨_, _, rfl⟩ | rfl
  ·have b1 : 0 <= y.fmod 100 := Int.fmod_nonneg_of_pos _ (by decide)
   have b2 := Int.fmod_lt_of_pos y (b := 100) (by decide)
   exact pad b1 ((Om.q 0 1 .f42) _ b1 b2) (by decide)
  ·exact pad ((Om.q 0 1 .f48) _ y1 y2 (by assumption) (by assumption)) ((Om.q 0 1 .f93) _ y1 y2 (by assumption) (by assumption)) (by decide)
  ·exact pad ((Om.q 0 1 .f2) _ y1 y2) ((Om.q 0 1 .f4) _ y1 y2) (by decide)
 have k4 : okW t4 := by
  obtain ⟨a1, a2, a3⟩ := cO (w := 2) h1 ((Om.q 0 1 .f13) _ h1 h2) (by decide)
  obtain ⟨b1, b2, b3⟩ := cO (w := 2) i1 ((Om.q 0 1 .f14) _ i1 i2) (by decide)
  obtain ⟨c1, c2, c3⟩ := cO (w := 2) s1 ((Om.q 0 1 .f15) _ s1 s2) (by decide)
  obtain ⟨sep, hs, n4⟩ := n4
  have hs' : sep.length <= 3 /\ ∀ c ∈ sep, c < 128 := by
   have : ∀ s ∈ [S ":", S " : "], s.length <= 3 /\ ∀ c ∈ s, c < 128 := by decide +kernel
   exact this sep hs
  rcases n4 with ⟨-, rfl⟩ | rfl
  ·refine ⟨?_, ?_, ?_⟩
   ·simp [b6, b5, a1]
   ·simp [b6, b5]; omega
   ·intro c hc
    simp [b6, b5] at hc
    rcases hc with hc | hc | hc
    ·exact a3 c hc
    ·exact hs'.2 c hc
    ·exact b3 c hc
  ·refine ⟨?_, ?_, ?_⟩
   ·simp [b6, b5, a1]
   ·simp [b6, b5]; omega
   ·intro c hc
    simp [b6, b5] at hc
    rcases hc with hc | hc | hc | hc | hc
    ·exact a3 c hc
    ·exact hs'.2 c hc
    ·exact b3 c hc
    ·exact hs'.2 c hc
    ·exact c3 c hc
 have k5 : okW t5 := by
  rcases n5 with ⟨nm, hm, rfl | rfl, -⟩ | ⟨mm, a, b, hh⟩
  ·exact (zones13_w _ hm).1
  ·exact (zones13_w _ hm).2
  ·have e1 : mm.fdiv 60 = mm / 60 := by rw [Int.fdiv_eq_ediv_of_nonneg _ (by decide)]
   have e2 : mm.fmod 60 = mm % 60 := by rw [Int.fmod_eq_emod_of_nonneg _ (by decide)]
   obtain ⟨a1, a2, a3⟩ := cO (n := mm.fdiv 60) (w := 2) ((Om.q 0 5 .f84) _ _ _ _ _ a b e1 e2 (Om.zdv _ 60 rfl) (Int.mul_ediv_add_emod _ 60)) ((Om.q 0 5 .f85) _ _ _ _ _ a b e1 e2 (Om.zdv _ 60 rfl) (Int.mul_ediv_add_emod _ 60)) (by decide)
   obtain ⟨b1, b2, b3⟩ := cO (n := mm.fmod 60) (w := 2) ((Om.q 0 4 .f45) _ _ _ _ e2 (Om.zdv _ 60 rfl) (Int.mul_ediv_add_emod _ 60)) ((Om.q 0 4 .f46) _ _ _ _ e2 (Om.zdv _ 60 rfl) (Int.mul_ediv_add_emod _ 60)) (by decide)
   have hp : S "+" = [43] := by decide +kernel
   have key : ∀ x : Nat, x < 128 -> okW ([x] ++ padI (mm.fdiv 60) 2 ++ padI (mm.fmod 60) 2) := fun x hx => by
    refine ⟨by simp, by simp; exact (Om.q 2 0 (.i (.l .x1 (.k 111)) (.i (.l .x0 (.k 111)) (.l (.a .x1 .x0) (.k 399))))) _ _ a2 b2, fun c hc => ?_⟩
    simp at hc
    rcases hc with rfl | hc | hc
    ·exact hx
    ·exact a3 c hc
    ·exact b3 c hc
   rcases hh with ⟨rfl, -⟩ | ⟨rfl, -⟩
   ·rw [hp]; exact key 43 (by decide)
   ·rw [Sm]; exact key 45 (by decide)
 refine ⟨by simp; omega, fun t ht => ?_⟩
 simp at ht
 rcases ht with ht | rfl | rfl | rfl | rfl | rfl
 ·exact k0.2 t ht
 ·exact k1
 ·exact k2
 ·exact k3
 ·exact k4
 ·exact k5
section
variable {G : Gx} {X : Fx} {σ τ : St} {Ψ : Ps} {Φ : V -> St -> Prop} {ΦF : Fl -> St -> Prop} {l : List (Str × Option V)} {g : List (Str × V)} {q : Option MO} {r : List (Option MO)}
theorem ib (B : Base G) (o : X.Ok G) (hf : X.md = .fr) (hh0 : X.A.handled = none) {it : Expr} {scope : Scope} {w : List Nat} {np op sp xp cp lp pos : Pos} (hg : HasG "bytes" (.val (.type "bytes")) σ.glb) (ok : cg scope "sign" [("ord", .val (.builtin "ord"))] = true) (hs : ∀ env y, foldedSetIterable it env y = pure y) (hclos : ∀ env, closureFor scope env = pure [])
  (hpa : ag [.ListComp (.Call (.Name "ord" op) [.Name "sign" sp] [] cp) [⟨.Name "sign" xp, it, [], 0⟩] scope lp] = true) (h : PE G X it σ (.str w)) (hz : w.length <= 10000) (hc : ∀ c ∈ w, c < 128) :
  PE G X (.Call (.Name "bytes" np) [.ListComp (.Call (.Name "ord" op) [.Name "sign" sp] [] cp) [⟨.Name "sign" xp, it, [], 0⟩] scope lp] [] pos) σ (.bytes (encB w)) := by
 with_reducible refine bu (by assumption) hpa (f := .val (.type "bytes")) (ds := [.lst ((w.map fun c => V.str [c]).map fun d => .int (oneOf d))]) (au o hg) rfl (ah rfl ?_ pa_nil) ?_
 ·with_reducible refine bV [("ord", .val (.builtin "ord"))] (fun d => .int (oneOf d)) (d := .str w) o hf hh0 ok (.cons B.ord .nil) hs hclos h rfl rfl (by simp; exact Om.hi hz) ?_
  intro d hd X2 o2 hm2 hh2 hr2
  obtain ⟨c, hc, rfl⟩ := List.mem_map.mp hd
  dsimp only [oneOf]
  walk_at "pe"
 ·have := jo (G := G) (X := X) (σ := σ) (ds := (w.map fun c => V.str [c]).map fun d => .int (oneOf d)) (ns := w.map fun c : Nat => (c : Int)) (by rw [List.map_map, List.map_map]; rfl) o hh0 (by
   intro n hn
   obtain ⟨c, hc', rfl⟩ := List.mem_map.mp hn
   have := hc c hc'
   exact (Om.q 1 0 .f79) _ this) (by simp; exact Om.hi hz)
  have e : (w.map fun c : Nat => (c : Int)).map (fun n => n.toNat.toUInt8) = encB w := by rw [List.map_map]; rfl
  rw [e] at this
  exact this
set_option tactic.hygienic true in
theorem glue_top : ∀ {ws : List (List Nat)} {w : List Nat}, Glue ws w -> (∀ t ∈ ws, okW t) -> w.length <= 500 * ws.length /\ ∀ c ∈ w, c < 128 := by
 intro ws w h
 induction h with
 | nil => intro _; simp
 | first h ih =>
  rename_i ws t
  intro k
  obtain ⟨k1, k2, k3⟩ := k t (by simp)
  refine ⟨by simp; exact (Om.q 2 0 (.i (.l .x1 (.k 400)) (.l .x1 (.m 500 (.a .x0 .k1))))) _ _ k2, k3⟩
 | more h hw hg ih =>
  rename_i ws w g t
  intro k
  obtain ⟨k1, k2, k3⟩ := k t (by simp)
  obtain ⟨g1, g2, g3⟩ := gaps8_ok g hg
  obtain ⟨i1, i2⟩ := ih fun u hu => k u (by simp [hu])
  refine ⟨by simp; exact (Om.q 4 0 (.i (.l .x3 (.k 400)) (.i (.l .x2 (.k 10)) (.i (.l .x1 (.m 500 .x0)) (.l (.a .x1 (.a .x2 .x3)) (.m 500 (.a .x0 .k1))))))) _ _ _ _ k2 g2 i1, fun c hc => ?_⟩
  simp at hc
  rcases hc with hc | hc | hc
  ·exact i2 c hc
  ·exact g3 c hc
  ·exact k3 c hc
inductive GluI (sc be na te : Option V) (cl : Option MO) (y m d h mi s z : Int) (ws : List (List Nat)) (i : Nat) (σ' : St) : Prop
 | mk (q : Option MO) (w : List Nat) (wd : Option V) (e : σ' = ⟨lwL (some (.loc 0)) (some (.int y)) (some (.int m)) (some (.int d)) (some (.loc 1)) (some (.int h)) (some (.int mi)) sc be na (some (.int s)) (some (.loc 2)) te (some (.int z)) (some (.str w)) wd none none none none none none none none none none none, lwG, [q, none, cl]⟩) (hp : PL q (60 + i)) (hg : Glue (ws.take i) w)
theorem law_s4 (B : Base G) (o : X.Ok G) (hf : X.md = .fr) (hh0 : X.A.handled = none) (hr : 12 <= X.room) {sc be na te : Option V} {cl : Option MO} {y m d h mi s z : Int} {ws : List (List Nat)} (hp : PL q 60) (hl : ws.length <= 6) (hw : ∀ t ∈ ws, okW t)
  (hk : ∀ q w wd, PL q 100 -> Glue ws w -> SSZ G X ((dfAt 66).body.drop 21) ΦF ⟨lwL (some (.loc 0)) (some (.int y)) (some (.int m)) (some (.int d)) (some (.loc 1)) (some (.int h)) (some (.int mi)) sc be na (some (.int s)) (some (.loc 2)) te (some (.int z)) (some (.str w)) wd (some (.bytes (encB w))) (some (.tup (momT ⟨y, m, d, h, mi, s, z⟩))) none none none none none none none none none, lwG, [q, none, cl]⟩) :
  SSZ G X ((dfAt 66).body.drop 18) ΦF ⟨lwL (some (.loc 0)) (some (.int y)) (some (.int m)) (some (.int d)) (some (.loc 1)) (some (.int h)) (some (.int mi)) sc be na (some (.int s)) (some (.loc 2)) te (some (.int z)) (some (.str [])) none none none none none none none none none none none none, lwG, [q, some (.list (ws.map .str)), cl]⟩ := by
 refine b9 (ts := ((dfAt 66).body.drop 18).take 3) (us := (dfAt 66).body.drop 21) ?_
 refine ay (gY o hf hh0 (fun _ _ => rfl) (iH (am (v := .loc 1) (by walk_at "pe") ⟨1, ws.map .str, rfl, rfl, ws.map .str, rfl, rfl, GluI sc be na te cl y m d h mi s z ws, ⟨q, [], none, rfl, hp.mono (by decide), by rw [List.take_zero]; exact .nil⟩, ?_, ?_⟩)))
 ·rintro i e σ' he ⟨q1, w, wd, rfl, hp1, hg⟩
  rw [List.getElem?_map] at he
  cases ht : ws[i]? with
  | none => rw [ht] at he; injection he
  | some t =>
   rw [ht] at he; obtain rfl := Option.some.inj he
   obtain ⟨hi, hti⟩ := List.getElem?_eq_some_iff.mp ht
   obtain ⟨t1, t2, t3⟩ := hw t (List.mem_of_getElem? ht)
   have hsub : ∀ t ∈ ws.take i, okW t := fun t ht => hw t (List.mem_of_mem_take ht)
   obtain ⟨g1, g2⟩ := glue_top hg hsub
   have g3 : w.length <= 3000 := by rw [List.length_take] at g1; have g2 := Nat.min_le_left i ws.length; omega
   have hsn : ws.take (i + 1) = ws.take i ++ [t] := by rw [List.take_add_one, ht]; rfl
   refine ⟨_, by walk_at "h", fun X2 o2 hmd2 hh2 hr2 hs2 => ?_⟩
   refine aT o2 hmd2 (by rfl) (cI (cI (am (v := .str w) (by walk_at "pe") (gE (de (c := decide (w ≠ S "")) (by walk_at "pe") ⟨fun hc => ?_, fun hc => ?_⟩)))))
   ·have hne : w ≠ [] := by rw [S_e] at hc; simpa using hc
    refine ex_gapL B o2 hmd2 hh2 ((Om.q 2 0 (.i (.l (.k 12) .x1) (.i (.e .x0 .x1) (.l (.k 2) .x0)))) _ _ hr hr2) (by walk_at "u") (by walk_at "h") (by walk_at "pe") hp1 ((Om.q 2 0 (.i (.l .x1 (.k 6)) (.i (.t .x0 .x1) (.L (.a (.k 60) (.c .x0)) (.k 900))))) _ _ hl hi) fun gp q2 hgp hp2 => ?_
    obtain ⟨p1, p2, p3⟩ := gaps8_ok gp hgp
    refine cz ((Om.q 2 0 (.i (.l .x1 (.k 3000)) (.i (.l .x0 (.k 10)) (.l (.a .x1 .x0) (.k 1000000))))) _ _ g3 p2) (am (v := .str t) (by walk_at "pe") (cz (by simp; exact (Om.q 3 0 (.i (.l .x2 (.k 400)) (.i (.l .x1 (.k 3000)) (.i (.l .x0 (.k 10)) (.l (.a (.a .x1 .x0) .x2) (.k 1000000)))))) _ _ _ t2 g3 p2) ⟨_, by walk_at "h", aa ⟨q2, w ++ gp ++ t, _, rfl, hp2.mono ((Om.q 1 0 (.L (.a (.a (.k 60) (.c .x0)) .k1) (.a (.k 60) (.c (.a .x0 .k1))))) _), by rw [hsn]; exact .more hg hne hgp⟩⟩))
   ·have hne : w = [] := by rw [S_e] at hc; simpa using hc
    subst hne
    refine am (v := .str (S "")) (by walk_at "pe") (cz (by rw [S_e]; decide) (am (v := .str t) (by walk_at "pe") (cz (by rw [S_e]; simp; exact Om.hi t2) ⟨_, by walk_at "h", aa ⟨q1, t, _, by rw [S_e]; rfl, hp1.mono ((Om.q 1 0 (.L (.a (.k 60) (.c .x0)) (.a (.k 60) (.c (.a .x0 .k1))))) _), by rw [hsn]; exact .first hg⟩⟩)))
 ·rintro σ' ⟨q1, w, wd, rfl, hp1, hg⟩
  rw [List.length_map, List.take_length] at hg
  rw [List.length_map] at hp1
  obtain ⟨g1, g2⟩ := glue_top hg hw
  have g3 : w.length <= 10000 := by exact (Om.q 2 0 (.i (.l .x1 (.k 6)) (.i (.l .x0 (.m 500 .x1)) (.l .x0 (.k 10000))))) _ _ hl g1
  refine ax (d := .bytes (encB w)) o hf (by rfl) (ib B o hf hh0 (by walk_at "h") (by rfl) (fun _ _ => rfl) (fun _ => by walk_at "u") (by walk_at "u") (by walk_at "pe") g3 g2) (by walk_at "h") ?_
  refine ax (d := .tup (momT ⟨y, m, d, h, mi, s, z⟩)) o hf (by rfl) (bU (by walk_at "pe") (by simp)) (by walk_at "h") (aa ?_)
  exact hk q1 w _ (hp1.mono ((Om.q 1 0 (.i (.l .x0 (.k 6)) (.L (.a (.k 60) (.c .x0)) (.k 100)))) _ hl)) hg
end
local macro_rules | `(tactic| walk_at "own") => `(tactic| apply jp <;> walk_at "sd")
theorem gD (t : Mom) : feqs (momT t) (momT t) = true := by simp [feqs, feq]
theorem days_get (t : Mom) (h1 : 1 <= t.month) (h2 : t.month <= 12) : 0 <= gL t.year t.month t.day /\ (days7.map V.str)[(gL t.year t.month t.day).toNat]? = some (.str (aP t)) := by
 rw [zeller h1 h2]
 obtain ⟨a, b⟩ := cM t.year t.month t.day
 unfold aP
 revert a b
 obtain ⟨k, hk0⟩ : ∃ y, bR t.year t.month t.day = y := ⟨_, rfl⟩
 rw [hk0]
 intro a b
 have : k = 0 \/ k = 1 \/ k = 2 \/ k = 3 \/ k = 4 \/ k = 5 \/ k = 6 := by exact (Om.q 0 1 (.i (.L .k0 .x0) (.i (.T .x0 (.k 7)) (.o (.E .x0 .k0) (.o (.E .x0 .k1) (.o (.E .x0 (.k 2)) (.o (.E .x0 (.k 3)) (.o (.E .x0 (.k 4)) (.o (.E .x0 (.k 5)) (.E .x0 (.k 6))))))))))) _ a b
 rcases this with rfl | rfl | rfl | rfl | rfl | rfl | rfl <;> exact ⟨by decide, rfl⟩
noncomputable def iK (t : Mom) : List Nat := aP t ++ S ", " ++ figs t.day.toNat ++ S " " ++ ak t.month ++ S " " ++ padI t.year 4 ++ S " " ++ aX (S ":") [padI t.hour 2, padI t.minute 2, padI t.second 2] ++ ((if decide (t.zone < 0) = true then S " -" else S " +") ++ padI ((iabs t.zone).fdiv 60) 2 ++ padI ((iabs t.zone).fmod 60) 2)
theorem due_write (t : Mom) : iK t = aJ t := by
 have e1 : S ", " = S "," ++ S " " := by decide +kernel
 have e2 : (if decide (t.zone < 0) = true then S " -" else S " +") = S " " ++ (if decide (t.zone < 0) = true then S "-" else S "+") := by
  split
  ·decide +kernel
  ·decide +kernel
 unfold iK aJ aK bd
 rw [e1, e2]
 simp only [b6, b5, gC, List.append_assoc]
section
variable {G : Gx} {X : Fx} {σ τ : St} {Ψ : Ps} {Φ : V -> St -> Prop} {ΦF : Fl -> St -> Prop} {l : List (Str × Option V)} {g : List (Str × V)} {q : Option MO} {r : List (Option MO)}
noncomputable def padV : V -> V
 | .int n => .str (padI n 2)
 | d => d
theorem iC (B : Base G) (o : X.Ok G) (hf : X.md = .fr) (hh0 : X.A.handled = none) (hr : 10 <= X.room) {es : List Expr} {np cp ap pos : Pos} {b : List UInt8} (hp : ag es = true) (hg : HasG "read_date" (.glob "read_date") σ.glb)
  (he : ∃ pl : Env -> Sem Bool, ∀ env, eval (.Call (.Attribute (.Call (.Name "read_date" np) es [] cp) "told" ap) [] [] pos) env = (do
   let ov <- eval (.Call (.Name "read_date" np) es [] cp) env
   standAt ap.atName
   let (f, first) <- holding [ov] (getMethod ov "told" (pl env))
   callWith pos f first (backTo pos (starEach [] env)) (backToKw pos (keywordEach [] env))))
  (h : PA G X es σ [.bytes b]) (hz : b.length <= 10000) (hok : ∀ m, bD b = .ok m -> Φ (.tup (momT m)) σ) (herr : ∀ a, bD b = .error a -> Ψ a σ.loc) : EX G X (.Call (.Attribute (.Call (.Name "read_date" np) es [] cp) "told" ap) [] [] pos) Φ Ψ σ := by
 with_reducible refine bP o rfl he (ex_rc o hp (au o hg) rfl h (r_read B o hf hh0 hr hz) (fun v H hv => ?_) fun a ha => ?_)
 ·cases hq : bD b with
  | error e => rw [hq] at hv; injection hv
  | ok m =>
   rw [hq] at hv; obtain ⟨rfl, rfl⟩ := Prod.mk.inj (Except.ok.inj hv)
   exact ⟨_, _, rfl, gm_obj o B.Moment B.m_told (by walk_at "u"), fun q => eF (eB (p_told B o (Om.lo hr)) (hok m hq))⟩
 ·cases hq : bD b with
  | error e => rw [hq] at ha; cases ha; exact herr _ hq
  | ok m => rw [hq] at ha; injection ha
theorem law_s5 (B : Base G) (o : X.Ok G) (hf : X.md = .fr) (hh0 : X.A.handled = none) (hr : 12 <= X.room) {sc na te wd : Option V} {bent : Bool} {cl : Option MO} {t : Mom} {w : List Nat} (hw : w.length <= 10000) (M : MomOk t) (h1 : bD (encB w) = .ok t) (h2 : bD (dC t) = .ok t) (hT : ∀ σ', ΦF (.ret (.bool true)) σ')
  (hk : SSZ G X ((dfAt 66).body.drop 22) ΦF ⟨lwL (some (.loc 0)) (some (.int t.year)) (some (.int t.month)) (some (.int t.day)) (some (.loc 1)) (some (.int t.hour)) (some (.int t.minute)) sc (some (.bool bent)) na (some (.int t.second)) (some (.loc 2)) te (some (.int t.zone)) (some (.str w)) wd (some (.bytes (encB w))) (some (.tup (momT t))) none none none none none none none none none, lwG, [q, none, cl]⟩) :
  SSZ G X ((dfAt 66).body.drop 21) ΦF ⟨lwL (some (.loc 0)) (some (.int t.year)) (some (.int t.month)) (some (.int t.day)) (some (.loc 1)) (some (.int t.hour)) (some (.int t.minute)) sc (some (.bool bent)) na (some (.int t.second)) (some (.loc 2)) te (some (.int t.zone)) (some (.str w)) wd (some (.bytes (encB w))) (some (.tup (momT t))) none none none none none none none none none, lwG, [q, none, cl]⟩ := by
 obtain ⟨wl, wc⟩ := fk M
 have MM := M
 obtain ⟨y1, y2, m1, m2, d1, d2, hh1, hh2, i1, i2, s1, s2, z1, z2⟩ := MM
 have hml := bM (y := t.year) (m := t.month)
 have hz : (encB w).length <= 10000 := by simpa [encB] using hw
 have hz2 : (dC t).length <= 10000 := by unfold dC; simp; exact Om.hi wl
 refine b9 (ts := ((dfAt 66).body.drop 21).take 1) (us := (dfAt 66).body.drop 22) ?_
 refine az (c := !bent) (by walk_at "pe") (fun hb => ?_) (fun hb => aa (aa hk))
 refine gn (gX (by rfl) (iC B o hf hh0 (Om.lo hr) (by walk_at "u") (by walk_at "h") ⟨_, fun _ => by walk_at "u"⟩ (by walk_at "pe") hz (fun m hm => ?_) fun a ha => by rw [h1] at ha; injection ha))
 rw [h1] at hm; obtain rfl := Except.ok.inj hm
 with_reducible refine am (v := .tup (momT t)) (by walk_at "pe") (ne_tup o rfl (bf ⟨fun hc => ?_, fun _ => aa ?_⟩))
 ·rw [gD] at hc; injection hc
 refine aT o hf (by rfl) (cv o (by walk_at "u") (am (au o (by walk_at "h")) ⟨rfl, fun qp => bX (by walk_at "u") (iF (t := t) B o hf hh0 (Om.lo hr) (by walk_at "u") (by walk_at "h") (by walk_at "pe") (eF (eB (p_write B o hh0 (Om.lo hr) M) ⟨_, by walk_at "h", ?_⟩)))⟩))
 show SSX G X _ _ _ ⟨lwL (some (.loc 0)) (some (.int t.year)) (some (.int t.month)) (some (.int t.day)) (some (.loc 1)) (some (.int t.hour)) (some (.int t.minute)) sc (some (.bool bent)) na (some (.int t.second)) (some (.loc 2)) te (some (.int t.zone)) (some (.str w)) wd (some (.bytes (encB w))) (some (.tup (momT t))) (some (.bytes (dC t))) none none none none none none none none, lwG, [q, none, cl, none]⟩
 obtain ⟨g1, g2⟩ := days_get t m1 m2
 have g2 : ([.str (S "Sat"), .str (S "Sun"), .str (S "Mon"), .str (S "Tue"), .str (S "Wed"), .str (S "Thu"), .str (S "Fri")] : List V)[(gL t.year t.month t.day).toNat]? = some (.str (aP t)) := g2
 have g3 := mon_get m1 m2
 obtain ⟨k1, k2⟩ := eO t
 obtain ⟨k3, k4⟩ := cm m1 m2
 have k5 := cW (n := t.day.toNat) ((Om.q 1 2 (.i (.L .k1 .x1) (.i (.L .x1 .x0) (.i (.a (.L (.k 28) .x0) (.L .x0 (.k 31))) (.i (.o (.a (.L .k0 .x1) (.E (.c .x0) .x1)) (.a (.T .x1 .k0) (.e .x0 .k0))) (.t .x0 (.k 10000000000))))))) _ _ _ d1 d2 hml (Om.tno _))
 have k6 := aG (n := t.year) (w := 4) ((Om.q 0 1 .f2) _ y1 y2) ((Om.q 0 1 .f4) _ y1 y2) (by decide)
 have u1 : (S ", ").length = 2 := rfl
 have u2 : (S " ").length = 1 := rfl
 have yb : t.year < 10 ^ 9 := by exact (Om.q 0 1 .f4) _ y1 y2
 have yb0 : 0 <= t.year := by exact (Om.q 0 1 .f2) _ y1 y2
 have e1 := Nat.le_of_eq u1
 have e2 := Nat.le_of_eq u2
 have q1 := Om.la (k := 12) k1 e1
 have q2 := Om.la (k := 23) q1 k5
 have q3 := Om.la (k := 24) q2 e2
 have q4 := Om.la (k := 34) q3 k3
 have q5 := Om.la (k := 35) q4 e2
 have q6 := Om.la (k := 146) q5 k6
 refine ax (d := .str (aP t ++ S ", " ++ figs t.day.toNat ++ S " " ++ ak t.month ++ S " " ++ padI t.year 4 ++ S " ")) o hf (by rfl) ?_ (by walk_at "h") ?_
 ·refine ai (ai (ai (ai (ai (ai (ai (ar (au o (by walk_at "h")) (by walk_at "pe") (pg_t o g1 (by decide) g2)) (by walk_at "pe") (bC ?_)) (by walk_at "pe") (bC ?_)) (by walk_at "pe") (bC ?_)) (ar (au o (by walk_at "h")) (by walk_at "pe") (pg_t o (by exact (Om.q 0 1 .f10) _ m1 m2) (by decide) g3)) (bC ?_)) (by walk_at "pe") (bC ?_)) (by walk_at "pe") (bC ?_)) (by walk_at "pe") (bC ?_)
  all_goals first | exact Om.lb k1 e1 | exact Om.lb q1 k5 | exact Om.lb q2 e2 | exact Om.lb q3 k3 | exact Om.lb q4 e2 | exact Om.lb q5 k6 | exact Om.lb q6 e2
 obtain ⟨due1, hd1⟩ : ∃ x, x = aP t ++ S ", " ++ figs t.day.toNat ++ S " " ++ ak t.month ++ S " " ++ padI t.year 4 ++ S " " := ⟨_, rfl⟩
 have ld1 : due1.length <= 200 := by rw [hd1]; exact Om.la q6 e2
 rw [<- hd1]
 have p1 := aG (n := t.hour) (w := 2) hh1 ((Om.q 0 1 .f13) _ hh1 hh2) (by decide)
 have p2 := aG (n := t.minute) (w := 2) i1 ((Om.q 0 1 .f14) _ i1 i2) (by decide)
 have p3 := aG (n := t.second) (w := 2) s1 ((Om.q 0 1 .f15) _ s1 s2) (by decide)
 have u3 : (S ":").length = 1 := rfl
 have lj : (aX (S ":") [padI t.hour 2, padI t.minute 2, padI t.second 2]).length <= 400 := by simp only [b6, b5, gC, List.length_append]; exact (Om.q 4 0 .f77) _ _ _ _ p1 p2 p3 u3
 refine ax (d := .str (due1 ++ aX (S ":") [padI t.hour 2, padI t.minute 2, padI t.second 2])) o hf (by rfl) ?_ (by walk_at "h") ?_
 ·refine ai (by walk_at "pe") ?_ (bC ((Om.q 2 0 (.i (.l .x1 (.k 200)) (.i (.l .x0 (.k 400)) (.l (.a .x1 .x0) (.k 1000000))))) _ _ ld1 lj))
  refine aI (by assumption) (by walk_at "u") ⟨_, fun _ => by walk_at "u"⟩ b4 dn rfl (ds := [.lst (([.int t.hour, .int t.minute, .int t.second] : List V).map padV)]) (ah (by rfl) ?_ pa_nil) (ei (sep := S ":") (bs := [padI t.hour 2, padI t.minute 2, padI t.second 2]) rfl o (by decide) (by simp) (by simp; exact (Om.q 3 0 .f92) _ _ _ p1 p2 p3))
  refine bV [("_law_figures", .glob "_law_figures")] padV (d := .tup [.int t.hour, .int t.minute, .int t.second]) o hf hh0 (by rfl) (.cons (av B.f_law_figures) .nil) (fun _ _ => rfl) (fun _ => by walk_at "u") (bU (by walk_at "pe") (by simp)) rfl rfl (by simp) ?_
  intro d hd X2 o2 hm2 hh2 hr2
  have hx : ∃ n : Int, d = .int n /\ 0 <= n /\ n < 10 ^ 9 := by
   simp at hd
   rcases hd with rfl | rfl | rfl
   ·exact ⟨_, rfl, hh1, by exact (Om.q 0 1 .f13) _ hh1 (by assumption)⟩
   ·exact ⟨_, rfl, i1, by exact (Om.q 0 1 .f14) _ i1 i2⟩
   ·exact ⟨_, rfl, s1, by exact (Om.q 0 1 .f15) _ s1 s2⟩
  obtain ⟨n, rfl, n0, n1⟩ := hx
  show PE _ _ _ _ (.str (padI n 2))
  walk_at "pe"
 obtain ⟨due2, hd2⟩ : ∃ x, x = due1 ++ aX (S ":") [padI t.hour 2, padI t.minute 2, padI t.second 2] := ⟨_, rfl⟩
 have ld2 : due2.length <= 600 := by rw [hd2, List.length_append]; exact (Om.q 2 0 (.i (.l .x1 (.k 200)) (.i (.l .x0 (.k 400)) (.l (.a .x1 .x0) (.k 600))))) _ _ ld1 lj
 rw [<- hd2]
 obtain ⟨v1, v2, v3, v4⟩ := fd60 (z := t.zone) ((Om.q 0 1 .f33) _ z1 z2) ((Om.q 0 1 .f34) _ z1 z2)
 have v5 : (iabs t.zone).fmod 60 < 10 ^ 9 := by exact (Om.q 0 1 .f30) _ v3 v4
 have v6 := aG (w := 2) v1 v2 (by decide)
 have v7 := aG (w := 2) v3 v5 (by decide)
 have u4 : (if decide (t.zone < 0) = true then S " -" else S " +").length = 2 := by split <;> rfl
 refine ax (d := .str (due2 ++ (if decide (t.zone < 0) = true then S " -" else S " +") ++ padI ((iabs t.zone).fdiv 60) 2 ++ padI ((iabs t.zone).fmod 60) 2)) o hf (by rfl) ?_ (by walk_at "h") ?_
 ·with_reducible refine ai (ai (ai (by walk_at "pe") ?_ (bC ?_)) ?_ (bC ?_)) ?_ (bC ?_)
  ·walk_at "pe"
  ·exact (Om.q 2 0 (.i (.l .x1 (.k 600)) (.i (.e .x0 (.k 2)) (.l (.a .x1 .x0) (.k 1000000))))) _ _ ld2 u4
  ·walk_at "pe"
  ·simp only [List.length_append]; exact (Om.q 3 0 (.i (.l .x2 (.k 600)) (.i (.l .x1 (.k 111)) (.i (.e .x0 (.k 2)) (.l (.a (.a .x2 .x0) .x1) (.k 1000000)))))) _ _ _ ld2 v6 u4
  ·walk_at "pe"
  ·simp only [List.length_append]; exact (Om.q 4 0 (.i (.l .x3 (.k 600)) (.i (.l .x2 (.k 111)) (.i (.l .x1 (.k 111)) (.i (.e .x0 (.k 2)) (.l (.a (.a (.a .x3 .x0) .x2) .x1) (.k 1000000))))))) _ _ _ _ ld2 v6 v7 u4
 have eD : due2 ++ (if decide (t.zone < 0) = true then S " -" else S " +") ++ padI ((iabs t.zone).fdiv 60) 2 ++ padI ((iabs t.zone).fmod 60) 2 = aJ t := by
  rw [<- due_write, hd2, hd1]
  unfold iK
  simp only [List.append_assoc]
 rw [eD]
 refine dU (iI (eb_and (am (v := .bool (decide (dC t = encB (aJ t)))) ?_ (bf ⟨fun _ => eb_last (ex_cmp (by rfl) (iC B o hf hh0 (Om.lo hr) (by walk_at "u") (by walk_at "h") ⟨_, fun _ => by walk_at "u"⟩ (by walk_at "pe") hz2 (fun m hm => ?_) fun a ha => by rw [h2] at ha; injection ha)), fun h => ?_⟩))))
 ·refine cS (by walk_at "u") (by walk_at "pe") (ib B o hf hh0 (by walk_at "h") (by rfl) (fun _ _ => rfl) (fun _ => by walk_at "u") (by walk_at "u") (by walk_at "pe") (Om.hi wl) wc) pq_eqb
 ·rw [h2] at hm; obtain rfl := Except.ok.inj hm
  with_reducible refine am (v := .tup (momT t)) (by walk_at "pe") (eq_tup o rfl ?_)
  rw [gD]; exact hT _
 ·exact absurd rfl (of_decide_eq_false h)
end
noncomputable def imo (o : Option V) : Option V := o.bind fun d => if imm d = true then some d else none
noncomputable def toldV : Except Int Mom -> V
 | .ok m => .tup (momT m)
 | .error _ => .none
noncomputable def faultI : Except Int Mom -> Int
 | .ok _ => -1
 | .error a => a
section
variable {G : Gx} {X : Fx} {σ τ : St} {Ψ : Ps} {Φ : V -> St -> Prop} {ΦF : Fl -> St -> Prop} {l : List (Str × Option V)} {g : List (Str × V)} {q : Option MO} {r : List (Option MO)}
theorem dP (a : Int) : toldV (.error a) = .none /\ faultI (.error a) = a := ⟨rfl, rfl⟩
theorem fK (m : Mom) : toldV (.ok m) = .tup (momT m) /\ faultI (.ok m) = -1 := ⟨rfl, rfl⟩
theorem pq_none : PQ G X .Eq .none .none σ (.bool true) := eq_none_none ⟨rfl, rfl⟩
theorem law_s8 (B : Base G) (o : X.Ok G) (hf : X.md = .fr) (hh0 : X.A.handled = none) (hr : 12 <= X.room) {po ye mo da wo ho mi sc be na se cl te zo wh wd mt la du at_ pi er pl : Option V} {H : List (Option MO)} {b : List UInt8} {ts : List Tk} (hz : b.length <= 10000) (ht : bh b = .ok ts) (hT : ∀ σ', ΦF (.ret (.bool true)) σ') :
  SSX G X ((dfAt 66).body.drop 29) ΦF noPs ⟨lwL po ye mo da wo ho mi sc be na se cl te zo wh wd (some (.bytes b)) mt la du at_ pi (some (toldV (bD b))) (some (.int (faultI (bD b)))) er (some (.lst ((bare ts).map tkV))) pl, lwG, H⟩ := by
 have hrd : bD b = iM (bare ts) b.length := by unfold bD; rw [ht]
 rw [hrd]
 have hz' : b.length <= 1000000 := by exact Om.hi hz
 refine br o hf hh0 (by walk_at "u") (fun _ => by walk_at "u") (fun _ => by walk_at "u") (ex_rc o (by walk_at "u") (au o (by walk_at "h")) rfl (by walk_at "pe") (kM (n := b.length) B o hf hh0 (Om.lo hr) (jJ hz ht)) (fun v H hv => ?_) fun a ha => by injection ha)
 obtain ⟨rfl, rfl⟩ := Prod.mk.inj (Except.ok.inj hv)
 cases iM (bare ts) b.length with
 | error a =>
  rw [(dP a).1, (dP a).2]
  refine ⟨_, _, rfl, rfl, by walk_at "h", ?_⟩
  refine ac (v := .bool (true && decide (a = a))) (cf (d9 (cS (by walk_at "u") (a := .none) (b := .none) (by walk_at "pe") (by walk_at "pe") pq_none) fun _ => dI (cS (by walk_at "u") (a := .int a) (b := .int a) (by walk_at "pe") (by walk_at "pe") pq_eq))) ?_
  rw [decide_eq_true rfl]; exact hT _
 | ok m =>
  rw [(fK m).1, (fK m).2]
  refine ⟨_, _, rfl, rfl, by walk_at "h", ?_⟩
  refine ac (v := .bool (feqs (momT m) (momT m) && decide ((-1 : Int) = -1))) (cf (d9 (cS (by walk_at "u") (a := .tup (momT m)) (b := .tup (momT m)) (by walk_at "pe") (by walk_at "pe") (pq_eqt o rfl)) fun _ => dI (cS (by walk_at "u") (a := .int (-1)) (b := .int (-1)) (by walk_at "pe") (by walk_at "pe") pq_eq))) ?_
  rw [gD]; exact hT _
theorem law_s7 (B : Base G) (E0 : ExnG G) (o : X.Ok G) (hf : X.md = .fr) (hh0 : X.A.handled = none) (hou : X.outer = []) (hpn : X.pins = []) (hr : 12 <= X.room) (hsc : X.scope = (dfAt 66).scope) {po ye mo da wo ho mi sc be na se cl te zo wh wd mt la du at_ pi er tk pl : Option V} {H : List (Option MO)} {b : List UInt8} (hz : b.length <= 10000) (hT : ∀ σ', ΦF (.ret (.bool true)) σ') :
  SSZ G X ((dfAt 66).body.drop 28) ΦF ⟨lwL po ye mo da wo ho mi sc be na se cl te zo wh wd (some (.bytes b)) mt la du at_ pi (some (toldV (bD b))) (some (.int (faultI (bD b)))) er tk pl, lwG, H⟩ := by
 refine ssz_try (Ψ := fun a loc => bh b = .error a /\ loc = lwL po ye mo da wo ho mi sc be na se cl te zo wh wd (some (.bytes b)) mt la du at_ pi (some (toldV (bD b))) (some (.int (faultI (bD b)))) er tk pl) o hf hou hpn B.word (by walk_at "h") (by simp) ?_ ?_
 ·refine ay (sx_comp1 [] (fun d => match d with | .tup (.str k :: _) => decide (k ≠ S "comment") | _ => false) (fun d => d) o hf hh0 (by rfl) .nil (fun _ _ => rfl) (fun _ => by walk_at "u") (by rw [dD hf]; unfold Fx.fenv; rw [hsc]; with_unfolding_all rfl) (ex_rc o (by walk_at "u") (au o (by walk_at "h")) rfl (by walk_at "pe") (jh B o hf hh0 (Om.lo hr) hz) (fun v H hv => ?_) fun a ha => ?_))
  ·cases hq : bh b with
   | error e => rw [hq] at hv; injection hv
   | ok ts =>
    rw [hq] at hv; obtain ⟨rfl, rfl⟩ := Prod.mk.inj (Except.ok.inj hv)
    have hl := dQ hq
    refine ⟨ts.map tkV, rfl, rfl, by simp; exact (Om.q 2 0 (.i (.l .x1 (.k 10000)) (.i (.l .x0 .x1) (.l .x0 (.k 1000000))))) _ _ hz hl, ?_, ?_, _, by walk_at "h", aa ?_⟩
    ·intro d hd X2 o2 hm2 hh2 hr2
     obtain ⟨t, ht, rfl⟩ := List.mem_map.mp hd
     refine PT.o ?_
     show PT _ _ _ _ (decide (t.1 ≠ S "comment"))
     unfold tkV
     walk_at "pe"
    ·intro d hd _ X2 o2 hm2 hh2 hr2
     refine am (v := d) (by walk_at "pe") ⟨rfl, rfl⟩
    ·have e : (((ts.map tkV).filter fun d => match d with | .tup (.str k :: _) => decide (k ≠ S "comment") | _ => false).map fun d => d) = (bare ts).map tkV := by
      rw [List.map_id']
      unfold bare
      rw [List.filter_map]
      rfl
     rw [e]
     exact ssz_of (law_s8 B o hf hh0 hr hz hq hT)
  ·cases hq : bh b with
   | error e => rw [hq] at ha; cases ha; exact ⟨rfl, rfl⟩
   | ok ts => rw [hq] at ha; injection ha
 ·rintro a loc ⟨ht, rfl⟩
  have hrd : bD b = .error a := by unfold bD; rw [ht]
  rw [hrd, (dP a).1, (dP a).2]
  refine ⟨rfl, lwL (imo po) (imo ye) (imo mo) (imo da) (imo wo) (imo ho) (imo mi) (imo sc) (imo be) (imo na) (imo se) (imo cl) (imo te) (imo zo) (imo wh) (imo wd) (some (.bytes b)) (imo mt) (imo la) (imo du) (imo at_) (imo pi) (some .none) (some (.int a)) (some (.exn a)) (imo tk) (imo pl), ?_, fun X' o' hf' hr' hs' => ?_⟩
  ·show Put "error" (.exn a) (lwL (imo po) (imo ye) (imo mo) (imo da) (imo wo) (imo ho) (imo mi) (imo sc) (imo be) (imo na) (imo se) (imo cl) (imo te) (imo zo) (imo wh) (imo wd) (some (.bytes b)) (imo mt) (imo la) (imo du) (imo at_) (imo pi) (some .none) (some (.int a)) (imo er) (imo tk) (imo pl)) _
   walk_at "h"
  refine ac (v := .bool (true && decide (a = a))) (cf (d9 ?_ fun _ => dI (cS (by walk_at "u") (a := .int a) (b := .int a) (by walk_at "pe") (by walk_at "pe") pq_eq))) ⟨rfl, ?_⟩
  ·refine cS (by walk_at "u") (a := .none) (b := .none) (by walk_at "pe") (by walk_at "pe") ?_
   exact pq_is0 (a := .none) rfl
  ·rw [decide_eq_true rfl]; exact hT _
end
noncomputable def pieces : List (List UInt8) := [[48], [57], [58], [44], [120], [45], [32], [40], [255], [54, 48], [97, 32], [46]]
theorem pieces_ok : ∀ p ∈ pieces, p.length <= 2 := by decide
section
variable {G : Gx} {X : Fx} {σ τ : St} {Ψ : Ps} {Φ : V -> St -> Prop} {ΦF : Fl -> St -> Prop} {l : List (Str × Option V)} {g : List (Str × V)} {q : Option MO} {r : List (Option MO)}
theorem law_s6b (B : Base G) (E0 : ExnG G) (o : X.Ok G) (hf : X.md = .fr) (hh0 : X.A.handled = none) (hou : X.outer = []) (hpn : X.pins = []) (hr : 12 <= X.room) (hsc : X.scope = (dfAt 66).scope) {po ye mo da wo ho mi sc be na se cl te zo wh wd mt la du at_ pi er tk pl : Option V} {H : List (Option MO)} {b : List UInt8} (hz : b.length <= 10000) (hT : ∀ σ', ΦF (.ret (.bool true)) σ') :
  SSZ G X ((dfAt 66).body.drop 27) ΦF ⟨lwL po ye mo da wo ho mi sc be na se cl te zo wh wd (some (.bytes b)) mt la du at_ pi (some .none) (some (.int (-1))) er tk pl, lwG, H⟩ := by
 refine ssz_try (Ψ := fun a loc => bD b = .error a /\ loc = lwL po ye mo da wo ho mi sc be na se cl te zo wh wd (some (.bytes b)) mt la du at_ pi (some .none) (some (.int (-1))) er tk pl) o hf hou hpn B.word (by walk_at "h") (by simp) ?_ ?_
 ·refine aT o hf (by rfl) (iC B o hf hh0 (Om.lo hr) (by walk_at "u") (by walk_at "h") ⟨_, fun _ => by walk_at "u"⟩ (by walk_at "pe") hz (fun m hm => ⟨_, by walk_at "h", aa ?_⟩) fun a ha => ⟨ha, rfl⟩)
  have := law_s7 (ΦF := ΦF) (po := po) (ye := ye) (mo := mo) (da := da) (wo := wo) (ho := ho) (mi := mi) (sc := sc) (be := be) (na := na) (se := se) (cl := cl) (te := te) (zo := zo) (wh := wh) (wd := wd) (mt := mt) (la := la) (du := du) (at_ := at_) (pi := pi) (er := er) (tk := tk) (pl := pl) (H := H) B E0 o hf hh0 hou hpn hr hsc hz hT
  rw [hm, (fK m).1, (fK m).2] at this
  exact this
 ·rintro a loc ⟨ha, rfl⟩
  refine ⟨rfl, lwL (imo po) (imo ye) (imo mo) (imo da) (imo wo) (imo ho) (imo mi) (imo sc) (imo be) (imo na) (imo se) (imo cl) (imo te) (imo zo) (imo wh) (imo wd) (some (.bytes b)) (imo mt) (imo la) (imo du) (imo at_) (imo pi) (some .none) (some (.int (-1))) (some (.exn a)) (imo tk) (imo pl), ?_, fun X' o' hf' hr' hs' => ?_⟩
  ·show Put "error" (.exn a) (lwL (imo po) (imo ye) (imo mo) (imo da) (imo wo) (imo ho) (imo mi) (imo sc) (imo be) (imo na) (imo se) (imo cl) (imo te) (imo zo) (imo wh) (imo wd) (some (.bytes b)) (imo mt) (imo la) (imo du) (imo at_) (imo pi) (some .none) (some (.int (-1))) (imo er) (imo tk) (imo pl)) _
   walk_at "h"
  refine ax (d := .int a) o' hf' (by rfl) ?_ (by walk_at "h") (aa ?_)
  ·walk_at "pe"
  ·refine ⟨rfl, ?_⟩
   have := law_s7 (ΦF := ΦF) (po := imo po) (ye := imo ye) (mo := imo mo) (da := imo da) (wo := imo wo) (ho := imo ho) (mi := imo mi) (sc := imo sc) (be := imo be) (na := imo na) (se := imo se) (cl := imo cl) (te := imo te) (zo := imo zo) (wh := imo wh) (wd := imo wd) (mt := imo mt) (la := imo la) (du := imo du) (at_ := imo at_) (pi := imo pi) (er := none) (tk := imo tk) (pl := imo pl) (H := []) B E0 o hf hh0 hou hpn hr hsc hz hT
   rw [ha, (dP a).1, (dP a).2] at this
   exact this
theorem law_s6 (B : Base G) (E0 : ExnG G) (o : X.Ok G) (hf : X.md = .fr) (hh0 : X.A.handled = none) (hou : X.outer = []) (hpn : X.pins = []) (hr : 12 <= X.room) (hsc : X.scope = (dfAt 66).scope) {ye mo da wo ho mi sc be na se te zo wh wd mt : Option V} {cl : Option MO} {clk : Option V} {b : List UInt8} (hp : PL q 100) (hz : b.length <= 4000) (hb : b ≠ []) (hT : ∀ σ', ΦF (.ret (.bool true)) σ') :
  SSZ G X ((dfAt 66).body.drop 22) ΦF ⟨lwL (some (.loc 0)) ye mo da wo ho mi sc be na se clk te zo wh wd (some (.bytes b)) mt none none none none none none none none none, lwG, [q, none, cl]⟩ := by
 have hz1 : b.length <= 1000000 := by exact Om.hi hz
 have hb1 : 1 <= b.length := by
  cases b with
  | nil => exact absurd rfl hb
  | cons => simp
 refine b9 (ts := ((dfAt 66).body.drop 22).take 5) (us := (dfAt 66).body.drop 27) ?_
 refine aT o hf (by rfl) (aE (m := (b.length : Int)) B o hf hh0 (Om.lo hr) (by walk_at "u") (by walk_at "h") (by walk_at "pe") hp (by decide) ((Om.q 1 0 (.i (.l .x0 (.k 4000)) (.i (.l .k1 .x0) (.T .k0 (.c .x0))))) _ hz hb1) ((Om.q 1 0 (.i (.l .x0 (.k 4000)) (.i (.l .k1 .x0) (.L (.c .x0) (.k 1000000))))) _ hz hb1) fun d1 q1 a0 a1 hp1 => ⟨_, by walk_at "h", ?_⟩)
 refine ay ?_
 with_reducible refine fv o hf ?_ ?_
 ·rfl
 with_reducible refine cu (ds := pieces.map .bytes) o (ef ?_ (by decide)) (by decide) (aE (m := 12) B o hf hh0 (by with_unfolding_all exact (Om.q 1 0 (.i (.l (.k 12) .x0) (.l .k1 .x0))) _ hr) (by walk_at "u") (by walk_at "h") (by walk_at "pe") hp1 (by decide) (by decide) (by decide) fun d2 q2 b0 b1 hp2 => ?_)
 ·with_unfolding_all rfl
 have hl : d2.toNat < pieces.length := by show d2.toNat < 12; exact (Om.q 1 1 (.i (.L .k0 .x0) (.i (.T .x0 (.k 12)) (.i (.o (.a (.L .k0 .x0) (.E (.c .x0) .x0)) (.a (.T .x0 .k0) (.e .x0 .k0))) (.t .x0 (.k 12)))))) _ _ b0 b1 (Om.tno _)
 refine ⟨d2, .bytes (pieces[d2.toNat]'hl), rfl, b0, by rw [List.getElem?_map, List.getElem?_eq_getElem hl]; rfl, ?_⟩
 have hm := pieces_ok _ (List.getElem_mem hl)
 revert hm
 obtain ⟨pc, hpc⟩ : ∃ y, pieces[d2.toNat] = y := ⟨_, rfl⟩
 rw [hpc]
 intro hm
 refine ⟨_, by walk_at "h", ?_⟩
 have e1 : (b.take d1.toNat).length <= 4000 := by rw [List.length_take]; omega
 have e2 : (b.drop d1.toNat).length <= 4000 := by rw [List.length_drop]; exact (Om.q 3 1 (.i (.l .x2 (.k 4000)) (.i (.l .k1 .x2) (.i (.T .x0 (.c .x2)) (.i (.o (.a (.L .k0 .x0) (.E (.c .x0) .x0)) (.a (.T .x0 .k0) (.e .x0 .k0))) (.i (.o (.a (.l .x0 .x2) (.e (.a .x1 .x0) .x2)) (.a (.t .x2 .x0) (.e .x1 .k0))) (.l .x1 (.k 4000)))))))) _ (Nat.sub _ _) (Int.toNat _) _ hz hb1 a1 ((Om.tno _)) ((Om.sbo _ _))
 have e3 : (b.drop (d1 + 1).toNat).length <= 4000 := by rw [List.length_drop]; exact (Om.q 3 1 (.i (.l .x2 (.k 4000)) (.i (.l .k1 .x2) (.i (.L .k0 .x0) (.i (.o (.a (.L .k0 (.a .x0 .k1)) (.E (.c .x0) (.a .x0 .k1))) (.a (.T (.a .x0 .k1) .k0) (.e .x0 .k0))) (.i (.o (.a (.l .x0 .x2) (.e (.a .x1 .x0) .x2)) (.a (.t .x2 .x0) (.e .x1 .k0))) (.l .x1 (.k 4000)))))))) b.length (b.length - (d1 + 1).toNat) ((d1 + 1).toNat) d1 hz hb1 a0 (by exact (Om.tno _)) (by exact (Om.sbo _ _))
 have f1 : (b.take d1.toNat).length + pc.length <= 1000000 := by exact (Om.q 2 0 (.i (.l .x1 (.k 2)) (.i (.l .x0 (.k 4000)) (.l (.a .x0 .x1) (.k 1000000))))) _ _ hm e1
 have f2 : (b.take d1.toNat ++ pc).length + (b.drop d1.toNat).length <= 1000000 := by rw [List.length_append]; exact (Om.q 3 0 .f94) _ _ _ hm e1 e2
 have f3 : (b.take d1.toNat ++ pc).length + (b.drop (d1 + 1).toNat).length <= 1000000 := by rw [List.length_append]; exact (Om.q 3 0 .f94) _ _ _ hm e1 e3
 have f4 : (b.take d1.toNat).length + (b.drop (d1 + 1).toNat).length <= 1000000 := by exact (Om.q 2 0 (.i (.l .x1 (.k 4000)) (.i (.l .x0 (.k 4000)) (.l (.a .x1 .x0) (.k 1000000))))) _ _ e1 e3
 have d10 : 0 <= d1 + 1 := by exact (Om.q 0 1 .f0) _ a0
 refine aT o hf (by rfl) (cu (ds := [.bytes (b.take d1.toNat ++ pc ++ b.drop d1.toNat), .bytes (b.take d1.toNat ++ b.drop (d1 + 1).toNat), .bytes (b.take d1.toNat ++ pc ++ b.drop (d1 + 1).toNat), .bytes (b.take d1.toNat)]) o (by walk_at "pe") (by simp) (aE (m := 4) B o hf hh0 (Om.lo hr) (by walk_at "u") (by walk_at "h") (by walk_at "pe") hp2 (by decide) (by decide) (by decide) fun d3 q3 c0 c1 hp3 => ?_))
 obtain ⟨b2, hb2, hl2⟩ : ∃ b2, ([.bytes (b.take d1.toNat ++ pc ++ b.drop d1.toNat), .bytes (b.take d1.toNat ++ b.drop (d1 + 1).toNat), .bytes (b.take d1.toNat ++ pc ++ b.drop (d1 + 1).toNat), .bytes (b.take d1.toNat)] : List V)[d3.toNat]? = some (.bytes b2) /\ b2.length <= 10000 := by
  have : d3 = 0 \/ d3 = 1 \/ d3 = 2 \/ d3 = 3 := by exact (Om.q 0 1 (.i (.L .k0 .x0) (.i (.T .x0 (.k 4)) (.o (.E .x0 .k0) (.o (.E .x0 .k1) (.o (.E .x0 (.k 2)) (.E .x0 (.k 3)))))))) _ c0 c1
  rcases this with rfl | rfl | rfl | rfl
  ·exact ⟨_, rfl, by simp only [List.length_append]; exact (Om.q 3 0 (.i (.l .x2 (.k 2)) (.i (.l .x1 (.k 4000)) (.i (.l .x0 (.k 4000)) (.l (.a (.a .x1 .x2) .x0) (.k 10000)))))) _ _ _ hm e1 e2⟩
  ·exact ⟨_, rfl, by simp only [List.length_append]; exact (Om.q 2 0 (.i (.l .x1 (.k 4000)) (.i (.l .x0 (.k 4000)) (.i (.l (.a .x1 .x0) (.k 1000000)) (.l (.a .x1 .x0) (.k 10000)))))) _ _ e1 e3 f4⟩
  ·exact ⟨_, rfl, by simp only [List.length_append]; exact (Om.q 3 0 (.i (.l .x2 (.k 2)) (.i (.l .x1 (.k 4000)) (.i (.l .x0 (.k 4000)) (.i (.l (.a .x1 .x0) (.k 1000000)) (.l (.a (.a .x1 .x2) .x0) (.k 10000))))))) _ _ _ hm e1 e3 f4⟩
  ·exact ⟨_, rfl, by exact Om.hi e1⟩
 refine ⟨d3, _, rfl, c0, hb2, _, by walk_at "h", ?_⟩
 refine ax (d := .none) o hf (by rfl) (by walk_at "pe") (by walk_at "h") ?_
 refine ax (d := .int (-1)) o hf (by rfl) (by walk_at "pe") (by walk_at "h") (aa ?_)
 exact law_s6b B E0 o hf hh0 hou hpn hr hsc hl2 hT
end
noncomputable def Plain : Prop := ∀ ws w y m d h mi s z, Said ws y m d h mi s z -> MomOk ⟨y, m, d, h, mi, s, z⟩ -> Glue ws w -> bD (encB w) = .ok ⟨y, m, d, h, mi, s, z⟩
theorem j5 {t : List Nat} {z : Int} (h : cD t z) : -5999 <= z /\ z <= 5999 := by
 rcases h with ⟨nm, hm, -, hz⟩ | ⟨m, h0, h1, ⟨-, rfl⟩ | ⟨-, rfl⟩⟩
 ·have : ∀ nm ∈ zones13.map (·.1), -5999 <= (bG nm zones13).getD 0 /\ (bG nm zones13).getD 0 <= 5999 := by decide +kernel
  have := this nm hm
  rw [hz] at this
  exact this
 ·exact (Om.q 0 1 (.i (.L .k0 .x0) (.i (.L .x0 (.k 5999)) (.a (.L (.g (.k 5999)) .x0) (.L .x0 (.k 5999)))))) _ h0 h1
 ·exact (Om.q 0 1 (.i (.L .k0 .x0) (.i (.L .x0 (.k 5999)) (.a (.L (.g (.k 5999)) (.g .x0)) (.L (.g .x0) (.k 5999)))))) _ h0 h1
theorem Said.zone {ws : List (List Nat)} {y m d h mi s z : Int} (S0 : Said ws y m d h mi s z) : -5999 <= z /\ z <= 5999 := by
 obtain ⟨dw, t1, t2, t3, t4, t5, n0, n1, n2, n3, n4, n5, rfl⟩ := S0.ex
 exact j5 n5
theorem Glue.ne : ∀ {ws : List (List Nat)} {w : List Nat}, Glue ws w -> (∀ t ∈ ws, okW t) -> ws ≠ [] -> w ≠ [] := by
 intro ws w h k n
 cases h with
 | nil => exact absurd rfl n
 | first h => exact (k _ (by simp)).1
 | more h hw hg => simp [hw]
section
variable {G : Gx} {X : Fx} {σ τ : St} {Ψ : Ps} {Φ : V -> St -> Prop} {ΦF : Fl -> St -> Prop}
theorem law_all (B : Base G) (E0 : ExnG G) (P1 : Plain) (P2 : ∀ t, MomOk t -> bD (dC t) = .ok t) (o : X.Ok G) (hf : X.md = .fr) (hh0 : X.A.handled = none) (hou : X.outer = []) (hpn : X.pins = []) (hr : 12 <= X.room) (hsc : X.scope = (dfAt 66).scope) {ns : List Int} (hz : ns.length <= 1000) (hT : ∀ σ', ΦF (.ret (.bool true)) σ') :
  SSZ G X (dfAt 66).body ΦF ⟨lwL none none none none none none none (some (.lst (ns.map .int))) none none none none none none none none none none none none none none none none none none none, lwG, []⟩ := by
 refine law_s1 B o hf hh0 hr hsc hz fun q bent y m d h mi hp y1 y2 m1 m2 d1 d2 h1 h2 i1 i2 => ?_
 have hml := bM (y := y) (m := m)
 refine law_s2 B o hf hh0 hr hp fun q ws na hp hdw => ?_
 have hdl : ws.length <= 1 := by
  rcases hdw with rfl | ⟨nm, _, c, _, rfl | rfl⟩ <;> simp
 refine law_s3 B o hf hh0 hr hp hdw hdl y1 y2 m1 m2 d1 ((Om.q 0 2 .f25) _ _ d2 hml) h1 h2 i1 i2 fun q ws s z te cl hp s1 s2 hs => ?_
 obtain ⟨hl, hw⟩ := okW_mem hs y1 y2 m1 m2 d1 ((Om.q 0 2 .f25) _ _ d2 hml) h1 h2 i1 i2 s1 s2
 obtain ⟨z1, z2⟩ := hs.zone
 have M : MomOk ⟨y, m, d, h, mi, s, z⟩ := ⟨y1, y2, m1, m2, d1, d2, h1, h2, i1, i2, s1, s2, z1, z2⟩
 refine law_s4 B o hf hh0 hr hp hl hw fun q w wd hp hg => ?_
 obtain ⟨g1, g2⟩ := glue_top hg hw
 have hwne : w ≠ [] := hg.ne hw (by
  obtain ⟨dw, t1, t2, t3, t4, t5, n0, n1, n2, n3, n4, n5, rfl⟩ := hs.ex
  simp)
 have hw3 : w.length <= 3000 := by exact (Om.q 2 0 (.i (.l .x1 (.k 6)) (.i (.l .x0 (.m 500 .x1)) (.l .x0 (.k 3000))))) _ _ hl g1
 refine law_s5 (t := ⟨y, m, d, h, mi, s, z⟩) B o hf hh0 hr (Om.hi hw3) M (P1 ws w y m d h mi s z hs M hg) (P2 _ M) hT ?_
 exact law_s6 B E0 o hf hh0 hou hpn hr hsc hp (by simp [encB]; exact Om.hi hw3) (by simp [encB]; exact hwne) hT
end
theorem slB_at {α : Type} {pre l : List α} {k : Nat} : slB (pre ++ l) (pre.length : Int) ((pre.length : Int) + (k : Nat)) = l.take k := by
 unfold slB
 have : ((pre.length : Int) + (k : Nat)).toNat - ((pre.length : Int)).toNat = k := by rw [<- Int.natCast_add, Int.toNat_natCast, Int.toNat_natCast, Nat.add_sub_cancel_left]
 rw [this]
 simp
theorem dW {α : Type} {pre l : List α} {c : α} : slB (pre ++ c :: l) (pre.length : Int) ((pre.length : Int) + 1) = [c] := by
 have := slB_at (pre := pre) (l := c :: l) (k := 1)
 simpa using this
theorem byB_at {pre l : List UInt8} {c : UInt8} : byB (pre ++ c :: l) (pre.length : Int) = (c.toNat : Int) := by
 unfold byB
 simp [List.getD_eq_getElem?_getD]
theorem cL {pre l : List UInt8} : whAt (pre ++ l) (pre.length : Int) = (pre.length : Int) + (wh l : Nat) := by
 unfold whAt
 simp
noncomputable abbrev Kd := List Nat × List UInt8
noncomputable def kd (t : Tk) : Kd := (t.1, t.2.1)
noncomputable def Lex (l : List UInt8) (ks : List Kd) : Prop := ∀ pre fuel, l.length < fuel -> ∃ ts, tokF (pre ++ l) fuel (whAt (pre ++ l) (pre.length : Int)) = .ok ts /\ (bare ts).map kd = ks
theorem Lex.tokens {l : List UInt8} {ks : List Kd} (h : Lex l ks) : ∃ ts, bh l = .ok ts /\ (bare ts).map kd = ks := by
 have := h [] (l.length + 1) ((Om.q 1 0 (.t .x0 (.a .x0 .k1))) _)
 simpa [bh] using this
theorem Lex.nil : Lex [] [] := fun pre fuel h => by
 obtain ⟨n, rfl⟩ : ∃ n, fuel = n + 1 := ⟨fuel - 1, by exact (Om.q 3 0 .f8) _ _ _ h (Om.sbo _ _)⟩
 refine ⟨[], ?_, rfl⟩
 unfold tokF
 rw [cL, if_neg (by simp [wh])]
theorem wh_two {c d : UInt8} {r : List UInt8} : wh (c :: d :: r) = if c = 9 \/ c = 32 then 1 + wh (d :: r) else if c = 10 then 1 + wh (d :: r) else if c = 13 /\ d = 10 then 2 + wh r else 0 := by
 conv => lhs; unfold wh
theorem wh_white {c : UInt8} {l : List UInt8} (h : c = 32 \/ c = 9) : wh (c :: l) = 1 + wh l := by
 cases l with
 | nil => unfold wh; rw [if_pos (h.symm)]
 | cons d r => rw [wh_two, if_pos (h.symm)]
theorem hF {α : Type} {pre l : List α} {c : α} : pre ++ c :: l = (pre ++ [c]) ++ l := by simp
theorem Lex.white {c : UInt8} {l : List UInt8} {ks : List Kd} (hc : c = 32 \/ c = 9) (h : Lex l ks) : Lex (c :: l) ks := fun pre fuel hf => by
 have := h (pre ++ [c]) fuel (by simp at hf; exact (Om.q 2 0 (.i (.t (.a .x1 .k1) .x0) (.t .x1 .x0))) _ _ hf)
 rw [<- hF] at this
 have e : whAt (pre ++ c :: l) ((pre ++ [c]).length : Int) = whAt (pre ++ c :: l) (pre.length : Int) := by
  rw [cL, wh_white hc, hF, cL]; simp; exact (Om.q 2 0 (.E (.a (.a (.c .x1) .k1) (.c .x0)) (.a (.c .x1) (.a .k1 (.c .x0))))) _ _
 rw [e] at this
 exact this
theorem Lex.crlf {l : List UInt8} {ks : List Kd} (h : Lex l ks) : Lex (13 :: 10 :: l) ks := fun pre fuel hf => by
 have := h (pre ++ [13, 10]) fuel (by simp at hf; exact (Om.q 2 0 (.i (.t (.a (.a .x1 .k1) .k1) .x0) (.t .x1 .x0))) _ _ hf)
 have e0 : pre ++ [13, 10] ++ l = pre ++ 13 :: 10 :: l := by simp
 rw [e0] at this
 have e : whAt (pre ++ 13 :: 10 :: l) ((pre ++ [13, 10]).length : Int) = whAt (pre ++ 13 :: 10 :: l) (pre.length : Int) := by
  rw [cL]
  rw [<- e0, cL]
  have : wh (13 :: 10 :: l) = 2 + wh l := by rw [wh_two]; simp
  rw [this]; simp; exact (Om.q 2 0 (.E (.a (.a (.c .x1) (.k 2)) (.c .x0)) (.a (.c .x1) (.a (.k 2) (.c .x0))))) _ _
 rw [e] at this
 exact this
theorem tok_go {b : List UInt8} {n : Nat} {p q : Int} {t : Tk} {ts : List Tk} (h1 : p < b.length) (h2 : bj b p = .ok (t, q)) (h3 : tokF b n (whAt b q) = .ok ts) : tokF b (n + 1) p = .ok (t :: ts) := by
 unfold tokF
 rw [if_pos h1, h2]
 dsimp only
 rw [h3]
theorem sgn_ok : ∀ c ∈ sgnB, c ≠ 34 /\ c ≠ 91 /\ c ≠ 40 := by decide
theorem wh_no {c : UInt8} {l : List UInt8} (h : c ≠ 9 /\ c ≠ 32 /\ c ≠ 10 /\ c ≠ 13) : wh (c :: l) = 0 := by
 obtain ⟨h1, h2, h3, h4⟩ := h
 cases l with
 | nil => unfold wh; rw [if_neg (by simp [h1, h2]), if_neg h3]
 | cons d r => rw [wh_two, if_neg (by simp [h1, h2]), if_neg h3, if_neg (by simp [h4])]
theorem Lex.sign {c : UInt8} {l : List UInt8} {ks : List Kd} (hc : c ∈ sgnB) (h : Lex l ks) : Lex (c :: l) ((S "sign", [c]) :: ks) := fun pre fuel hf => by
 obtain ⟨n, rfl⟩ : ∃ n, fuel = n + 1 := ⟨fuel - 1, by exact (Om.q 3 0 .f8) _ _ _ hf (Om.sbo _ _)⟩
 obtain ⟨ts, h1, h2⟩ := h (pre ++ [c]) n (by simp at hf; exact (Om.q 2 0 .f19) _ _ hf)
 rw [<- hF] at h1
 have hw : wh (c :: l) = 0 := wh_no (by
  have : ∀ c ∈ sgnB, c ≠ 9 /\ c ≠ 32 /\ c ≠ 10 /\ c ≠ 13 := by decide
  exact this c hc)
 obtain ⟨n1, n2, n3⟩ := sgn_ok c hc
 refine ⟨(S "sign", [c], (pre.length : Int)) :: ts, ?_, ?_⟩
 ·rw [cL, hw]
  refine tok_go (q := (pre.length : Int) + 1) (by simp; exact (Om.q 2 0 (.T (.c .x1) (.a (.c .x1) (.a (.c .x0) .k1)))) _ _) ?_ (by simpa using h1)
  unfold bj
  rw [show ((pre.length : Int) + ((0 : Nat) : Int)) = (pre.length : Int) by exact (Om.q 1 0 .f49) _, dW, if_neg (by simp [n1]), if_neg (by simp [n2]), if_neg (by simp [n3]), if_pos (by simpa using hc)]
 ·unfold bare at h2 ⊢
  rw [List.filter_cons, if_pos (decide_eq_true (show S "sign" ≠ S "comment" by decide +kernel)), List.map_cons, h2]
  rfl
noncomputable def eG (l : List UInt8) : Prop := l = [] \/ ∃ c r, l = c :: r /\ bq (c.toNat : Int) = false
theorem iV {b : List UInt8} : ∀ {a l : List UInt8}, (∀ c ∈ a, bq (c.toNat : Int) = true) -> eG l -> cC b (a ++ l) = a.length
 | [], l, _, hs => by
  rcases hs with rfl | ⟨c, r, rfl, h⟩
  ·rfl
  ·show cC b (c :: r) = 0
   unfold cC; rw [if_neg (by rw [h]; decide)]
 | c :: a, l, h, hs => by
  show cC b (c :: (a ++ l)) = _
  unfold cC
  rw [if_pos (h c (.head _)), iV (fun c hc => h c (.tail _ hc)) hs, List.length_cons]; exact (Om.q 1 0 .f28) _
theorem atomC_no : ∀ c : Nat, c < 256 -> bq (c : Int) = true -> c ≠ 34 /\ c ≠ 91 /\ c ≠ 40 /\ c ≠ 9 /\ c ≠ 32 /\ c ≠ 10 /\ c ≠ 13 /\ sgnB.contains c.toUInt8 = false := by decide +kernel
theorem Lex.atom {a l : List UInt8} {ks : List Kd} (ha : ∀ c ∈ a, bq (c.toNat : Int) = true) (hn : a ≠ []) (hs : eG l) (h : Lex l ks) : Lex (a ++ l) ((S "atom", a) :: ks) := fun pre fuel hf => by
 obtain ⟨n, rfl⟩ : ∃ n, fuel = n + 1 := ⟨fuel - 1, by exact (Om.q 3 0 .f8) _ _ _ hf (Om.sbo _ _)⟩
 obtain ⟨ts, h1, h2⟩ := h (pre ++ a) n (by
  have : a.length ≠ 0 := by simp [hn]
  simp at hf; exact (Om.q 3 0 (.i (.n (.e .x2 .k0)) (.i (.t (.a .x2 .x1) (.a .x0 .k1)) (.t .x1 .x0)))) _ _ _ this hf)
 rw [List.append_assoc] at h1
 have hE : aQ (pre ++ (a ++ l)) (pre.length : Int) = (pre.length : Int) + (a.length : Nat) := by
  unfold aQ
  rw [show (pre ++ (a ++ l)).drop ((pre.length : Int)).toNat = a ++ l from by simp, iV ha hs]
 have hS : slB (pre ++ (a ++ l)) (pre.length : Int) (aQ (pre ++ (a ++ l)) (pre.length : Int)) = a := by
  rw [hE, slB_at]; simp
 cases a with
 | nil => exact absurd rfl hn
 | cons c a =>
  obtain ⟨k1, k2, k3, k4, k5, k6, k7, k8⟩ := atomC_no c.toNat c.toNat_lt (ha c (.head _))
  have nn : ∀ k : UInt8, c.toNat ≠ k.toNat -> c ≠ k := fun k h e => h (by rw [e])
  have hw : wh (c :: (a ++ l)) = 0 := wh_no ⟨nn 9 k4, nn 32 k5, nn 10 k6, nn 13 k7⟩
  have hc8 : sgnB.contains c = false := by rw [<- k8]; congr 1; simp
  refine ⟨(S "atom", c :: a, (pre.length : Int)) :: ts, ?_, ?_⟩
  ·rw [cL, show (c :: a) ++ l = c :: (a ++ l) from rfl, hw]
   rw [show ((pre.length : Int) + ((0 : Nat) : Int)) = (pre.length : Int) by exact (Om.q 1 0 .f49) _]
   refine tok_go (q := (pre.length : Int) + ((c :: a).length : Nat)) (by simp; exact (Om.q 3 0 .f95) _ _ _) ?_ (by simpa using h1)
   unfold bj
   rw [dW, if_neg (by simpa using nn 34 k1), if_neg (by simpa using nn 91 k2), if_neg (by simpa using nn 40 k3), if_neg (by simpa using hc8), byB_at, if_neg (by rw [ha c (.head _)]; decide)]
   rw [show pre ++ c :: (a ++ l) = pre ++ ((c :: a) ++ l) from rfl, hS, hE]
  ·unfold bare at h2 ⊢
   rw [List.filter_cons, if_pos (decide_eq_true (show S "atom" ≠ S "comment" by decide +kernel)), List.map_cons, h2]
   rfl
noncomputable def plainB (c : UInt8) : Bool := c != 92 && c != 13 && c != 10 && c != 0
theorem never_no : ∀ c : Nat, c < 256 -> c ≠ 13 -> c ≠ 10 -> c ≠ 0 -> never.contains (c : Int) = false := by decide +kernel
theorem ins_at {pre r : List UInt8} {c : UInt8} {begun : Int} (h : plainB c = true) : insR (pre ++ c :: r) (pre.length : Int) begun = .ok ([c], (pre.length : Int) + 1) := by
 unfold plainB at h
 simp only [Bool.and_eq_true, bne_iff_ne, ne_eq] at h
 obtain ⟨⟨⟨h1, h2⟩, h3⟩, h4⟩ := h
 have n1 : c.toNat ≠ 92 := fun e => h1 (UInt8.toNat_inj.mp e)
 have n2 : c.toNat ≠ 13 := fun e => h2 (UInt8.toNat_inj.mp e)
 have n3 : c.toNat ≠ 10 := fun e => h3 (UInt8.toNat_inj.mp e)
 have n4 : c.toNat ≠ 0 := fun e => h4 (UInt8.toNat_inj.mp e)
 have hl : aL (pre ++ c :: r) (pre.length : Int) = -1 := by
  unfold aL
  rw [dW, if_neg (by simpa using h3)]
  have := slB_at (pre := pre) (l := c :: r) (k := 2)
  rw [show ((pre.length : Int) + 2) = (pre.length : Int) + ((2 : Nat) : Int) from rfl, this]
  rw [if_neg]
  intro e
  cases r with
  | nil => simp at e
  | cons d r => simp at e; exact h2 e.1
 unfold insR
 rw [byB_at, dW, hl, if_neg, if_neg, if_neg, if_neg]
 ·rw [never_no _ c.toNat_lt n2 n3 n4]; decide
 ·decide
 ·simp; exact (Om.q 1 0 (.i (.n (.e .x0 (.k 92))) (.i (.n (.e .x0 (.k 13))) (.i (.n (.e .x0 (.k 10))) (.i (.n (.e .x0 .k0)) (.n (.E (.c .x0) (.k 92)))))))) _ n1 n2 n3 n4
 ·simp; exact (Om.q 3 0 (.i (.n (.e .x2 (.k 92))) (.i (.n (.e .x2 (.k 13))) (.i (.n (.e .x2 (.k 10))) (.i (.n (.e .x2 .k0)) (.a (.T (.c .x1) (.a (.c .x1) (.a (.c .x0) .k1))) (.i (.E (.c .x2) (.k 92)) (.n (.E .k1 (.a (.c .x0) .k1)))))))))) _ _ _ n1 n2 n3 n4
noncomputable def depOk : Int -> List UInt8 -> Bool
 | d, [] => decide (d = 0)
 | d, c :: r => (decide (0 < d) && decide (d <= 10) && plainB c) && depOk (if c = 40 then d + 1 else if c = 41 then d - 1 else d) r
theorem jG {begun : Int} {rest : List UInt8} : ∀ {l : List UInt8} {d : Int} {pre : List UInt8} {fuel : Nat}, depOk d l = true -> l.length < fuel -> ∃ ws, cy (pre ++ (l ++ rest)) begun fuel d (pre.length : Int) = .ok (ws, (pre.length : Int) + (l.length : Nat))
 | [], d, pre, fuel, h, hf => by
  obtain ⟨n, rfl⟩ : ∃ n, fuel = n + 1 := ⟨fuel - 1, by exact (Om.q 3 0 .f8) _ _ _ hf (Om.sbo _ _)⟩
  unfold depOk at h
  have hd := of_decide_eq_true h
  refine ⟨[], ?_⟩
  unfold cy
  rw [if_neg (by exact (Om.q 0 1 (.i (.E .x0 .k0) (.n (.T .k0 .x0)))) _ hd)]
  simp
 | c :: l, d, pre, fuel, h, hf => by
  obtain ⟨n, rfl⟩ : ∃ n, fuel = n + 1 := ⟨fuel - 1, by exact (Om.q 3 0 .f8) _ _ _ hf (Om.sbo _ _)⟩
  unfold depOk at h
  simp only [Bool.and_eq_true, decide_eq_true_eq] at h
  obtain ⟨⟨⟨h1, h2⟩, h3⟩, h4⟩ := h
  obtain ⟨ws, hw⟩ := jG (begun := begun) (rest := rest) (l := l) (pre := pre ++ [c]) (fuel := n) h4 (by simp at hf; exact (Om.q 2 0 .f19) _ _ hf)
  refine ⟨[c] :: ws, ?_⟩
  have e : (pre ++ [c]) ++ (l ++ rest) = pre ++ ((c :: l) ++ rest) := by simp
  rw [e] at hw
  have e2 : (((pre ++ [c]).length : Nat) : Int) = (pre.length : Int) + 1 := by simp
  rw [e2] at hw
  unfold cy
  rw [if_pos h1, show pre ++ ((c :: l) ++ rest) = pre ++ c :: (l ++ rest) from rfl, dW, if_neg (by omega), ins_at h3]
  dsimp only
  have e3 : (if [c] = [(40 : UInt8)] then d + 1 else if [c] = [41] then d - 1 else d) = (if c = 40 then d + 1 else if c = 41 then d - 1 else d) := by simp
  rw [e3, show pre ++ c :: (l ++ rest) = pre ++ ((c :: l) ++ rest) from rfl, hw]
  dsimp only
  congr 2
  simp; exact (Om.q 2 0 (.E (.a (.a (.c .x1) .k1) (.c .x0)) (.a (.c .x1) (.a (.c .x0) .k1)))) _ _
theorem Lex.comment {c l : List UInt8} {ks : List Kd} (hc : depOk 1 c = true) (h : Lex l ks) : Lex (40 :: (c ++ l)) ks := fun pre fuel hf => by
 obtain ⟨n, rfl⟩ : ∃ n, fuel = n + 1 := ⟨fuel - 1, by exact (Om.q 3 0 .f8) _ _ _ hf (Om.sbo _ _)⟩
 obtain ⟨ts, h1, h2⟩ := h (pre ++ 40 :: c) n (by simp at hf; exact (Om.q 3 0 (.i (.t (.a .x2 .x1) .x0) (.t .x1 .x0))) _ _ _ hf)
 have e0 : (pre ++ 40 :: c) ++ l = pre ++ 40 :: (c ++ l) := by simp
 rw [e0] at h1
 obtain ⟨ws, hw⟩ := jG (begun := (pre.length : Int)) (rest := l) (pre := pre ++ [40]) (fuel := (pre ++ 40 :: (c ++ l)).length + 1) hc (by simp; exact (Om.q 3 0 (.t .x2 (.a (.a .x1 (.a (.a .x2 .x0) .k1)) .k1))) _ _ _)
 rw [show (pre ++ [40]) ++ (c ++ l) = pre ++ 40 :: (c ++ l) from by simp, show (((pre ++ [(40 : UInt8)]).length : Nat) : Int) = (pre.length : Int) + 1 from by simp] at hw
 have hcm : cJ (pre ++ 40 :: (c ++ l)) (pre.length : Int) = .ok (ws.dropLast.flatten, (pre.length : Int) + 1 + (c.length : Nat)) := by
  unfold cJ; rw [hw]
 refine ⟨(S "comment", ws.dropLast.flatten, (pre.length : Int)) :: ts, ?_, ?_⟩
 ·rw [cL, wh_no (by decide), show ((pre.length : Int) + ((0 : Nat) : Int)) = (pre.length : Int) by exact (Om.q 1 0 .f49) _]
  refine tok_go (q := (pre.length : Int) + 1 + (c.length : Nat)) (by simp; exact (Om.q 3 0 .f95) _ _ _) ?_ ?_
  ·unfold bj
   rw [dW, if_neg (by decide), if_neg (by decide), if_pos rfl, hcm]; rfl
  ·have e : (((pre ++ 40 :: c).length : Nat) : Int) = (pre.length : Int) + 1 + (c.length : Nat) := by simp; exact (Om.q 2 0 (.E (.a (.c .x1) (.a (.c .x0) .k1)) (.a (.a (.c .x1) .k1) (.c .x0)))) _ _
   rw [<- e]; exact h1
 ·unfold bare at h2 ⊢
  rw [List.filter_cons, if_neg (by rw [decide_eq_false (by simp)]; decide)]
  exact h2
theorem figs_one : ∀ n : Nat, n < 10 -> figs n = [48 + n] := by decide +kernel
theorem figs_ten {n d : Nat} (hn : 0 < n) (hd : d < 10) : figs (10 * n + d) = figs n ++ [48 + d] := by
 unfold figs
 rw [<- Nat.toDigits_append_toDigits (by decide) hn hd, List.map_append]
 congr 1
 exact figs_one d hd
theorem fN (n w : Nat) : padI (n : Int) (w : Int) = List.replicate (w - (figs n).length) 48 ++ figs n := by
 unfold padI
 rw [S0]
 have e : (((w : Int) - ((figs ((n : Int)).toNat).length : Int)).toNat) = w - (figs n).length := by
  rw [Int.toNat_natCast]; exact (Om.q 4 0 (.i (.o (.a (.L .k0 (.s (.c .x2) (.c .x1))) (.E (.c .x3) (.s (.c .x2) (.c .x1)))) (.a (.T (.s (.c .x2) (.c .x1)) .k0) (.e .x3 .k0))) (.i (.o (.a (.l .x1 .x2) (.e (.a .x0 .x1) .x2)) (.a (.t .x2 .x1) (.e .x0 .k0))) (.e .x3 .x0)))) _ _ _ _ (Om.tno _) (Om.sbo _ _)
 rw [e, Int.toNat_natCast]
 congr 1
 induction (w - (figs n).length) with
 | zero => rfl
 | succ k ih => rw [List.replicate_succ, List.flatten_cons, ih]; rfl
theorem pad_succ {n w : Nat} (hw : 1 <= w) : padI (n : Int) ((w + 1 : Nat) : Int) = padI ((n / 10 : Nat) : Int) (w : Int) ++ [48 + n % 10] := by
 rw [fN, fN]
 by_cases h : n < 10
 ·have e : n / 10 = 0 := by exact (Om.q 2 0 (.i (.t .x1 (.k 10)) (.i (.a (.l (.m 10 .x0) .x1) (.t .x1 (.a (.m 10 .x0) (.k 10)))) (.e .x0 .k0)))) _ _ h (Om.ndv _ 10 rfl)
  have e2 : n % 10 = n := by exact (Om.q 3 0 (.i (.e .x2 .k0) (.i (.a (.l (.m 10 .x2) .x1) (.t .x1 (.a (.m 10 .x2) (.k 10)))) (.i (.e (.a (.m 10 .x2) .x0) .x1) (.e .x0 .x1))))) _ _ _ e (Om.ndv _ 10 rfl) (Nat.div_add_mod _ 10)
  rw [e, e2, figs_one n h, figs_one 0 (by decide)]
  obtain ⟨k, rfl⟩ : ∃ k, w = k + 1 := ⟨w - 1, by exact (Om.q 2 0 (.i (.l .k1 .x1) (.i (.o (.a (.l .k1 .x1) (.e (.a .x0 .k1) .x1)) (.a (.t .x1 .k1) (.e .x0 .k0))) (.e .x1 (.a .x0 .k1))))) _ _ hw (Om.sbo _ _)⟩
  simp only [List.length_cons, List.length_nil, Nat.zero_add, Nat.add_sub_cancel]
  rw [List.replicate_succ' (n := k)]
 ·have e : figs n = figs (n / 10) ++ [48 + n % 10] := by
   rw [<- figs_ten (by exact (Om.q 2 0 (.i (.n (.t .x1 (.k 10))) (.i (.a (.l (.m 10 .x0) .x1) (.t .x1 (.a (.m 10 .x0) (.k 10)))) (.t .k0 .x0)))) _ _ h (Om.ndv _ 10 rfl)) (by exact (Om.q 3 0 (.i (.a (.l (.m 10 .x0) .x1) (.t .x1 (.a (.m 10 .x0) (.k 10)))) (.i (.e (.a (.m 10 .x0) .x2) .x1) (.t .x2 (.k 10))))) _ _ _ (Om.ndv _ 10 rfl) (Nat.div_add_mod _ 10))]; congr 1; exact (Om.q 3 0 (.i (.a (.l (.m 10 .x1) .x2) (.t .x2 (.a (.m 10 .x1) (.k 10)))) (.i (.e (.a (.m 10 .x1) .x0) .x2) (.e .x2 (.a (.m 10 .x1) .x0))))) _ _ _ (Om.ndv _ 10 rfl) (Nat.div_add_mod _ 10)
  rw [e, List.length_append, <- List.append_assoc]
  congr 3
  simp only [List.length_cons, List.length_nil]; exact (Om.q 4 0 (.i (.o (.a (.l (.a .x1 (.a .k0 .k1)) (.a .x2 .k1)) (.e (.a .x3 (.a .x1 (.a .k0 .k1))) (.a .x2 .k1))) (.a (.t (.a .x2 .k1) (.a .x1 (.a .k0 .k1))) (.e .x3 .k0))) (.i (.o (.a (.l .x1 .x2) (.e (.a .x0 .x1) .x2)) (.a (.t .x2 .x1) (.e .x0 .k0))) (.e .x3 .x0)))) _ _ _ _ (Om.sbo _ _) (Om.sbo _ _)
theorem pad_one {n : Nat} (h : n < 10) : padI (n : Int) 1 = [48 + n] := by
 rw [show (1 : Int) = ((1 : Nat) : Int) from rfl, fN, figs_one n h]; rfl
noncomputable def LexW (t : List Nat) (ks : List Kd) : Prop := ∀ l ks', eG l -> Lex l ks' -> Lex (encB t ++ l) (ks ++ ks')
theorem dM (a b : List Nat) : encB (a ++ b) = encB a ++ encB b := by unfold encB; exact List.map_append
theorem gap_lex : ∀ g ∈ gaps8, (∀ l ks, Lex l ks -> Lex (encB g ++ l) ks) /\ ∀ l, eG (encB g ++ l) := by
 have e : gaps8 = [[32], [32], [32, 32], [9], [13, 10, 32], [32, 40, 120, 41, 32], [40, 77, 111, 110, 44, 32, 40, 49, 41, 41], [32]] := by decide +kernel
 rw [e]
 have st : ∀ (c : UInt8) (r : List UInt8), bq (c.toNat : Int) = false -> eG (c :: r) := fun c r h => .inr ⟨c, r, rfl, h⟩
 intro g hg
 simp only [List.mem_cons, List.not_mem_nil, or_false] at hg
 rcases hg with rfl | rfl | rfl | rfl | rfl | rfl | rfl | rfl
 ·exact ⟨fun l ks h => h.white (.inl rfl), fun l => st _ _ (by decide +kernel)⟩
 ·exact ⟨fun l ks h => h.white (.inl rfl), fun l => st _ _ (by decide +kernel)⟩
 ·exact ⟨fun l ks h => (h.white (.inl rfl)).white (.inl rfl), fun l => st _ _ (by decide +kernel)⟩
 ·exact ⟨fun l ks h => h.white (.inr rfl), fun l => st _ _ (by decide +kernel)⟩
 ·exact ⟨fun l ks h => (h.white (.inl rfl)).crlf, fun l => st _ _ (by decide +kernel)⟩
 ·exact ⟨fun l ks h => (Lex.comment (c := [120, 41]) (by decide) (h.white (.inl rfl))).white (.inl rfl), fun l => st _ _ (by decide +kernel)⟩
 ·exact ⟨fun l ks h => Lex.comment (c := [77, 111, 110, 44, 32, 40, 49, 41, 41]) (by decide) h, fun l => st _ _ (by decide +kernel)⟩
 ·exact ⟨fun l ks h => h.white (.inl rfl), fun l => st _ _ (by decide +kernel)⟩
theorem bN {t : List Nat} (hn : t ≠ []) (h : ∀ c ∈ t, c < 256 /\ bq (c : Int) = true) : LexW t [(S "atom", encB t)] := fun l ks' hs hl => by
 refine Lex.atom ?_ (by unfold encB; simp [hn]) hs hl
 intro c hc
 obtain ⟨x, hx, rfl⟩ := List.mem_map.mp hc
 obtain ⟨h1, h2⟩ := h x hx
 rw [show (x.toUInt8.toNat : Int) = (x : Int) by simp; exact Int.emod_eq_of_lt (Int.natCast_nonneg _) (Int.ofNat_lt.mpr h1)]
 exact h2
inductive GlueK : List (List Nat) -> List Kd -> Prop
 | nil : GlueK [] []
 | snoc {ws : List (List Nat)} {ks : List Kd} {t : List Nat} {kt : List Kd} (h : GlueK ws ks) (ht : LexW t kt) : GlueK (ws ++ [t]) (ks ++ kt)
theorem GlueK.inv {ws : List (List Nat)} {t : List Nat} {ks : List Kd} (h : GlueK (ws ++ [t]) ks) : ∃ k1 k2, ks = k1 ++ k2 /\ GlueK ws k1 /\ LexW t k2 := by
 generalize hW : ws ++ [t] = W at h
 cases h with
 | nil => simp at hW
 | snoc h ht =>
  obtain ⟨h1, h2⟩ := List.append_inj' hW rfl
  simp at h2
  subst h1; subst h2
  exact ⟨_, _, rfl, h, ht⟩
theorem glue_nil {ws : List (List Nat)} (h : Glue ws []) (hne : ∀ t ∈ ws, t ≠ []) : ws = [] := by
 generalize hw : ([] : List Nat) = w at h
 cases h with
 | nil => rfl
 | first h => exact absurd hw.symm (hne _ (by simp))
 | more h hw' hg => simp at hw; exact absurd hw.1 hw'
theorem GlueK.none {ks : List Kd} (h : GlueK [] ks) : ks = [] := by
 generalize hW : ([] : List (List Nat)) = W at h
 cases h with
 | nil => rfl
 | snoc h ht => simp at hW
set_option tactic.hygienic true in
theorem glue_lex : ∀ {ws : List (List Nat)} {w : List Nat}, Glue ws w -> (∀ t ∈ ws, t ≠ []) -> ∀ {ks : List Kd}, GlueK ws ks -> LexW w ks := by
 intro ws w h
 induction h with
 | nil =>
  intro _ ks hk
  rw [hk.none]
  exact fun l ks' _ hl => hl
 | first h ih =>
  rename_i ws t
  intro hne ks hk
  have hws := glue_nil h fun u hu => hne u (by simp [hu])
  subst hws
  obtain ⟨k1, k2, rfl, h1, h2⟩ := hk.inv
  rw [h1.none]
  exact h2
 | more h hw hg ih =>
  rename_i ws w g t
  intro hne ks hk
  obtain ⟨k1, k2, rfl, h1, h2⟩ := hk.inv
  have hW := ih (fun u hu => hne u (by simp [hu])) h1
  obtain ⟨g1, g2⟩ := gap_lex g hg
  intro l ks' hs hl
  have := hW _ _ (g2 (encB t ++ l)) (g1 _ _ (h2 l ks' hs hl))
  rw [dM, dM, List.append_assoc, List.append_assoc, List.append_assoc]
  exact this
noncomputable abbrev kA (t : List Nat) : Kd := (S "atom", encB t)
noncomputable abbrev kS (c : UInt8) : Kd := (S "sign", [c])
theorem LexW.app {a b : List Nat} {ka kb : List Kd} (ha : LexW a ka) (hb : LexW b kb) (hs : ∀ l, eG (encB b ++ l)) : LexW (a ++ b) (ka ++ kb) := fun l ks' hl h => by
 rw [dM, List.append_assoc, List.append_assoc]
 exact ha _ _ (hs l) (hb l ks' hl h)
theorem lexW_sign {c : Nat} (hc : c.toUInt8 ∈ sgnB) : LexW [c] [kS c.toUInt8] := fun l ks' hs h => Lex.sign hc h
theorem lexW_comma : LexW [44] [kS 44] := lexW_sign (by decide)
theorem lexW_scomma : LexW [32, 44] [kS 44] := fun l ks' hs h => (Lex.sign (by decide) h).white (.inl rfl)
theorem fL {c : UInt8} {r : List UInt8} (h : bq (c.toNat : Int) = false) : eG (c :: r) := .inr ⟨c, r, rfl, h⟩
noncomputable def dayK (dk : List Kd) : Prop := dk = [] \/ ∃ x, low7.contains (lowT x) = true /\ (∀ c ∈ x, c < 256) /\ (dk = [kA x] \/ dk = [kA x, kS 44])
theorem days7_atom : ∀ nm ∈ days7, (nm ≠ [] /\ (∀ c ∈ nm, c < 256 /\ bq (c : Int) = true) /\ low7.contains (lowT nm) = true) /\ (lowL nm ≠ [] /\ (∀ c ∈ lowL nm, c < 256 /\ bq (c : Int) = true) /\ low7.contains (lowT (lowL nm)) = true) := by decide +kernel
theorem day_lex {dw : List (List Nat)} (h : dayW dw) : ∃ dk, dayK dk /\ GlueK dw dk := by
 rcases h with rfl | ⟨nm, hm, c, hc, h⟩
 ·exact ⟨[], .inl rfl, .nil⟩
 ·have key : ∀ x : List Nat, x ≠ [] -> (∀ c ∈ x, c < 256 /\ bq (c : Int) = true) -> low7.contains (lowT x) = true -> ∃ dk, dayK dk /\ GlueK [x ++ c] dk := fun x h1 h2 h3 => by
   have hx := bN h1 h2
   have e : [S ",", S " ,", S ""] = [[44], [32, 44], []] := by decide +kernel
   rw [e] at hc
   simp only [List.mem_cons, List.not_mem_nil, or_false] at hc
   have h256 : ∀ c ∈ x, c < 256 := fun c hc => (h2 c hc).1
   rcases hc with rfl | rfl | rfl
   ·exact ⟨[kA x, kS 44], .inr ⟨x, h3, h256, .inr rfl⟩, GlueK.snoc (ws := []) (ks := []) .nil (hx.app lexW_comma fun l => fL (by decide +kernel))⟩
   ·exact ⟨[kA x, kS 44], .inr ⟨x, h3, h256, .inr rfl⟩, GlueK.snoc (ws := []) (ks := []) .nil (hx.app lexW_scomma fun l => fL (by decide +kernel))⟩
   ·rw [List.append_nil]
    exact ⟨[kA x], .inr ⟨x, h3, h256, .inl rfl⟩, GlueK.snoc (ws := []) (ks := []) .nil hx⟩
  obtain ⟨⟨a1, a2, a3⟩, b1, b2, b3⟩ := days7_atom nm hm
  rcases h with rfl | rfl
  ·exact key nm a1 a2 a3
  ·exact key _ b1 b2 b3
theorem gF {t : List Nat} (h : ∀ c ∈ t, 48 <= c /\ c <= 57) : ∀ c ∈ t, c < 256 /\ bq (c : Int) = true := fun c hc => by
 obtain ⟨a, b⟩ := h c hc
 refine ⟨by exact (Om.q 1 0 (.i (.l (.k 48) .x0) (.i (.l .x0 (.k 57)) (.t .x0 (.k 256))))) _ a b, ?_⟩
 unfold bq
 rw [decide_eq_true (show (48 : Int) <= (c : Int) by exact (Om.q 1 0 (.i (.l (.k 48) .x0) (.i (.l .x0 (.k 57)) (.L (.k 48) (.c .x0))))) _ a b), decide_eq_true (show (c : Int) <= 57 by exact (Om.q 1 0 (.i (.l (.k 48) .x0) (.i (.l .x0 (.k 57)) (.L (.c .x0) (.k 57))))) _ a b)]
 rfl
theorem dg {n w : Int} (h0 : 0 <= n) (h1 : n < 10 ^ 9) (hw : w <= 100) : LexW (padI n w) [kA (padI n w)] := bN (cO h0 h1 hw).1 (gF aU)
theorem kJ {l : List UInt8} : eG (encB [58] ++ l) := fL (by decide +kernel)
theorem j7 {l : List UInt8} : eG (encB [32, 58, 32] ++ l) := fL (by decide +kernel)
noncomputable def clockK (h mi s : Int) (ck : List Kd) : Prop := (s = 0 /\ ck = [kA (padI h 2), kS 58, kA (padI mi 2)]) \/ ck = [kA (padI h 2), kS 58, kA (padI mi 2), kS 58, kA (padI s 2)]
theorem clock_lex {h mi s : Int} {t : List Nat} (hc : clockW h mi s t) (h1 : 0 <= h) (h2 : h <= 23) (i1 : 0 <= mi) (i2 : mi <= 59) (s1 : 0 <= s) (s2 : s <= 60) : ∃ ck, clockK h mi s ck /\ LexW t ck := by
 have lh := dg (n := h) (w := 2) h1 ((Om.q 0 1 .f13) _ h1 h2) (by decide)
 have lm := dg (n := mi) (w := 2) i1 ((Om.q 0 1 .f14) _ i1 i2) (by decide)
 have ls := dg (n := s) (w := 2) s1 ((Om.q 0 1 .f15) _ s1 s2) (by decide)
 obtain ⟨sep, hs, hc⟩ := hc
 have e : [S ":", S " : "] = [[58], [32, 58, 32]] := by decide +kernel
 rw [e] at hs
 have hsep : (∀ l ks', Lex l ks' -> Lex (encB sep ++ l) (kS 58 :: ks')) /\ ∀ l, eG (encB sep ++ l) := by
  simp only [List.mem_cons, List.not_mem_nil, or_false] at hs
  rcases hs with rfl | rfl
  ·exact ⟨fun l ks' h => Lex.sign (by decide) h, fun l => kJ⟩
  ·exact ⟨fun l ks' h => (Lex.sign (by decide) (h.white (.inl rfl))).white (.inl rfl), fun l => j7⟩
 have one : ∀ {u : List Nat} {ku : List Kd}, LexW u ku -> LexW (sep ++ u) (kS 58 :: ku) := fun hu l ks' hl h => by
  rw [dM, List.append_assoc]
  exact hsep.1 _ _ (hu l ks' hl h)
 have stp : ∀ u l, eG (encB (sep ++ u) ++ l) := fun u l => by rw [dM, List.append_assoc]; exact hsep.2 _
 rcases hc with ⟨rfl, rfl⟩ | rfl
 ·refine ⟨_, .inl ⟨rfl, rfl⟩, ?_⟩
  have := lh.app (one lm) (stp _)
  simpa [b6, b5] using this
 ·refine ⟨_, .inr rfl, ?_⟩
  have := lh.app (one (lm.app (one ls) (stp _))) (stp _)
  simpa [b6, b5] using this
theorem names12_atom : ∀ nm : List Nat, nm ∈ names12 -> (nm ≠ [] /\ ∀ c ∈ nm, c < 256 /\ bq (c : Int) = true) /\ (uppL nm ≠ [] /\ ∀ c ∈ uppL nm, c < 256 /\ bq (c : Int) = true) := by decide +kernel
theorem zones13_atom : ∀ nm ∈ zones13.map (fun p => p.1), ((nm : List Nat) ≠ [] /\ ∀ c ∈ nm, c < 256 /\ bq (c : Int) = true) /\ (uppL nm ≠ [] /\ ∀ c ∈ uppL nm, c < 256 /\ bq (c : Int) = true) := by decide +kernel
theorem said_lex {ws : List (List Nat)} {y m d h mi s z : Int} (S0 : Said ws y m d h mi s z) (M : MomOk ⟨y, m, d, h, mi, s, z⟩) : ∃ dk ck t1 t2 t3 t5, dayK dk /\ clockK h mi s ck /\ numW d t1 /\ monW m t2 /\ dG t3 y /\ cD t5 z /\ GlueK ws (dk ++ ([kA t1] ++ ([kA t2] ++ ([kA t3] ++ (ck ++ [kA t5]))))) := by
 obtain ⟨dw, t1, t2, t3, t4, t5, n0, n1, n2, n3, n4, n5, rfl⟩ := S0.ex
 obtain ⟨y1, y2, m1, m2, d1, d2, h1, h2, i1, i2, s1, s2, z1, z2⟩ := M
 dsimp only at y1 y2 m1 m2 d1 d2 h1 h2 i1 i2 s1 s2 z1 z2
 have hml := bM (y := y) (m := m)
 obtain ⟨dk, k0, g0⟩ := day_lex n0
 obtain ⟨ck, k4, g4⟩ := clock_lex n4 h1 h2 i1 i2 s1 s2
 have g1 : LexW t1 [kA t1] := by rcases n1 with rfl | rfl <;> exact dg ((Om.q 0 1 (.i (.L .k1 .x0) (.L .k0 .x0))) _ d1) ((Om.q 0 2 (.i (.L .x1 .x0) (.i (.a (.L (.k 28) .x0) (.L .x0 (.k 31))) (.T .x1 (.k 1000000000))))) _ _ d2 hml) (by decide)
 have g2 : LexW t2 [kA t2] := by
  have hm : ak m ∈ names12 := dK (by show _ < 12; exact (Om.q 1 1 .f9) _ _ m1 m2 (Om.tno _))
  rcases n2 with rfl | rfl
  ·exact bN (names12_atom _ hm).1.1 (names12_atom _ hm).1.2
  ·exact bN (names12_atom _ hm).2.1 (names12_atom _ hm).2.2
 have g3 : LexW t3 [kA t3] := by
  rcases n3 with ⟨_, _, rfl⟩ | ⟨_, _, rfl⟩ | rfl
  ·have b1 : 0 <= y.fmod 100 := Int.fmod_nonneg_of_pos _ (by decide)
   have b2 := Int.fmod_lt_of_pos y (b := 100) (by decide)
   exact dg b1 ((Om.q 0 1 .f42) _ b1 b2) (by decide)
  ·exact dg ((Om.q 0 1 .f48) _ y1 y2 (by assumption) (by assumption)) ((Om.q 0 1 .f93) _ y1 y2 (by assumption) (by assumption)) (by decide)
  ·exact dg ((Om.q 0 1 .f2) _ y1 y2) ((Om.q 0 1 .f4) _ y1 y2) (by decide)
 have g5 : LexW t5 [kA t5] := by
  rcases n5 with ⟨nm, hm, rfl | rfl, -⟩ | ⟨mm, a, b, hh⟩
  ·exact bN (zones13_atom _ hm).1.1 (zones13_atom _ hm).1.2
  ·exact bN (zones13_atom _ hm).2.1 (zones13_atom _ hm).2.2
  ·have hp : S "+" = [43] := by decide +kernel
   have key : ∀ x : Nat, x < 256 /\ bq (x : Int) = true -> LexW ([x] ++ padI (mm.fdiv 60) 2 ++ padI (mm.fmod 60) 2) [kA ([x] ++ padI (mm.fdiv 60) 2 ++ padI (mm.fmod 60) 2)] := fun x hx => by
    refine bN (by simp) fun c hc => ?_
    simp at hc
    rcases hc with rfl | hc | hc
    ·exact hx
    ·exact gF aU c hc
    ·exact gF aU c hc
   rcases hh with ⟨rfl, -⟩ | ⟨rfl, -⟩
   ·rw [hp]; exact key 43 (by decide +kernel)
   ·rw [Sm]; exact key 45 (by decide +kernel)
 refine ⟨dk, ck, t1, t2, t3, t5, k0, k4, n1, n2, n3, n5, ?_⟩
 have := (((((g0.snoc g1).snoc g2).snoc g3).snoc g4).snoc g5)
 simpa using this
theorem lw {w : List Nat} (h : ∀ c ∈ w, c < 256) : eI (encB w) = w := by
 unfold eI encB
 rw [List.map_map]
 conv => rhs; rw [<- List.map_id w]
 refine List.map_congr_left fun c hc => ?_
 have := h c hc
 simp; exact (Om.q 1 0 (.i (.t .x0 (.k 256)) (.t .x0 (.k 256)))) _ this
theorem kd_at {ts : List Tk} {ks : List Kd} (h : ts.map kd = ks) {i : Nat} {k : Kd} (hi : ks[i]? = some k) : ∃ t, ts[i]? = some t /\ t.1 = k.1 /\ t.2.1 = k.2 := by
 rw [<- h, List.getElem?_map] at hi
 cases ht : ts[i]? with
 | none => rw [ht] at hi; injection hi
 | some t => rw [ht] at hi; obtain rfl := Option.some.inj hi; exact ⟨t, rfl, rfl, rfl⟩
theorem bp {ts : List Tk} {ks : List Kd} (h : ts.map kd = ks) {a : Int} {i : Nat} {w : List Nat} (ha : a = (i : Nat)) (hi : ks[i]? = some (kA w)) (hw : ∀ c ∈ w, c < 256) : ad ts a = w := by
 subst ha
 obtain ⟨t, h1, h2, h3⟩ := kd_at h hi
 unfold ad
 rw [Int.toNat_natCast, h1]
 dsimp only
 rw [if_pos h2, h3, lw hw]
theorem eZ {ts : List Tk} {ks : List Kd} (h : ts.map kd = ks) {a : Int} {i : Nat} {c : UInt8} (ha : a = (i : Nat)) (hi : ks[i]? = some (kS c)) : isSg ts a [c] = true := by
 subst ha
 obtain ⟨t, h1, h2, h3⟩ := kd_at h hi
 unfold isSg
 rw [Int.toNat_natCast, h1]
 dsimp only
 rw [h2, h3]; simp
theorem isSg_no {ts : List Tk} {ks : List Kd} (h : ts.map kd = ks) {a : Int} {i : Nat} {c : UInt8} {w : List Nat} (ha : a = (i : Nat)) (hi : ks[i]? = some (kA w)) : isSg ts a [c] = false := by
 subst ha
 obtain ⟨t, h1, h2, h3⟩ := kd_at h hi
 unfold isSg
 rw [Int.toNat_natCast, h1]
 dsimp only
 rw [h2, decide_eq_false (show S "atom" ≠ S "sign" by decide +kernel)]; rfl
theorem cN {n w : Int} (h0 : 0 <= n) (h1 : n < 10 ^ 9) (hw : w <= 100) : bE (padI n w) = true := by
 unfold bE
 rw [decide_eq_true (cO h0 h1 hw).1, Bool.true_and, List.all_eq_true]
 intro c hc
 obtain ⟨a, b⟩ := aU c hc
 rw [decide_eq_true a, decide_eq_true b]; rfl
theorem val_w : ∀ (w k : Nat), k < 10 ^ (w + 1) -> (padI (k : Int) ((w + 1 : Nat) : Int)).length = w + 1 /\ digitsVal (padI (k : Int) ((w + 1 : Nat) : Int)) = k
 | 0, k, h => by
  rw [show ((0 + 1 : Nat) : Int) = 1 from rfl, pad_one (by simpa using h)]
  exact ⟨rfl, by show 0 * 10 + (48 + k - 48) = k; rw [Nat.zero_mul, Nat.zero_add, Nat.add_sub_cancel_left]⟩
 | w + 1, k, h => by
  obtain ⟨a, b⟩ := val_w w (k / 10) (Nat.div_lt_of_lt_mul (by rw [Nat.mul_comm, <- Nat.pow_succ]; exact h))
  rw [pad_succ (Nat.succ_le_succ (Nat.zero_le w)), List.length_append, a, digitsVal_snoc, b, Nat.add_sub_cancel_left]
  exact ⟨rfl, by rw [Nat.mul_comm]; exact Nat.div_add_mod k 10⟩
theorem val_n {n : Int} {w : Nat} (h0 : 0 <= n) (h1 : n < 10 ^ (w + 1)) : (padI n ((w + 1 : Nat) : Int)).length = w + 1 /\ (digitsVal (padI n ((w + 1 : Nat) : Int)) : Int) = n := by
 obtain ⟨k, rfl⟩ := Int.eq_ofNat_of_zero_le h0
 obtain ⟨a, b⟩ := val_w w k (by exact_mod_cast h1)
 exact ⟨a, congrArg Int.ofNat b⟩
theorem val2 {n : Int} (h0 : 0 <= n) (h1 : n < 100) : (padI n 2).length = 2 /\ (digitsVal (padI n 2) : Int) = n := val_n (w := 1) h0 h1
theorem val3 {n : Int} (h0 : 0 <= n) (h1 : n < 1000) : (padI n 3).length = 3 /\ (digitsVal (padI n 3) : Int) = n := val_n (w := 2) h0 h1
theorem val4 {n : Int} (h0 : 0 <= n) (h1 : n < 10000) : (padI n 4).length = 4 /\ (digitsVal (padI n 4) : Int) = n := val_n (w := 3) h0 h1
theorem val1 {n : Int} (h0 : 0 <= n) (h1 : n < 100) : (1 <= (padI n 1).length /\ (padI n 1).length <= 2) /\ (digitsVal (padI n 1) : Int) = n := by
 obtain ⟨k, rfl⟩ := Int.eq_ofNat_of_zero_le h0
 have := (show ∀ k : Nat, k < 100 -> (1 <= (padI (k : Int) 1).length /\ (padI (k : Int) 1).length <= 2) /\ digitsVal (padI (k : Int) 1) = k by decide +kernel) k ((Om.q 1 0 (.i (.L .k0 (.c .x0)) (.i (.T (.c .x0) (.k 100)) (.t .x0 (.k 100))))) _ h0 h1)
 exact ⟨this.1, congrArg Int.ofNat this.2⟩
theorem num_day {d : Int} {t : List Nat} (h : numW d t) (d1 : 1 <= d) (d2 : d <= 31) : bE t = true /\ (1 <= t.length /\ t.length <= 2) /\ (digitsVal t : Int) = d := by
 rcases h with rfl | rfl
 ·exact ⟨cN ((Om.q 0 1 .f12) _ d1 d2) ((Om.q 0 1 .f47) _ d1 d2) (by decide), val1 ((Om.q 0 1 .f12) _ d1 d2) ((Om.q 0 1 .f96) _ d1 d2)⟩
 ·have := val2 (n := d) ((Om.q 0 1 .f12) _ d1 d2) ((Om.q 0 1 .f96) _ d1 d2)
  exact ⟨cN ((Om.q 2 1 (.i (.L .k1 .x0) (.i (.L .x0 (.k 31)) (.i (.a (.e .x1 (.k 2)) (.E (.c .x0) .x0)) (.L .k0 .x0))))) _ _ _ d1 d2 this) ((Om.q 2 1 (.i (.L .k1 .x0) (.i (.L .x0 (.k 31)) (.i (.a (.e .x1 (.k 2)) (.E (.c .x0) .x0)) (.T .x0 (.k 1000000000)))))) _ _ _ d1 d2 this) (by decide), by exact (Om.q 2 1 (.i (.a (.e .x1 (.k 2)) (.E (.c .x0) .x0)) (.a (.l .k1 .x1) (.l .x1 (.k 2))))) _ _ _ this, this.2⟩
theorem num_year {y : Int} {t : List Nat} (h : dG t y) (y1 : 1 <= y) (y2 : y <= 9999) : bE t = true /\ (2 <= t.length /\ t.length <= 4) /\ aD (digitsVal t) t.length = y := by
 rcases h with ⟨a, b, rfl⟩ | ⟨a, b, rfl⟩ | rfl
 ·have e : y.fmod 100 = y % 100 := Int.fmod_eq_emod_of_nonneg _ (by decide)
  rw [e]
  obtain ⟨h1, h2⟩ := val2 (n := y % 100) ((Om.q 0 4 (.i (.E .x3 .x2) (.i (.a (.L (.m 100 .x0) .x1) (.T .x1 (.a (.m 100 .x0) (.k 100)))) (.i (.E (.a (.m 100 .x0) .x2) .x1) (.L .k0 .x2))))) _ _ _ _ e (Om.zdv _ 100 rfl) (Int.mul_ediv_add_emod _ 100)) ((Om.q 0 4 (.i (.E .x3 .x2) (.i (.a (.L (.m 100 .x0) .x1) (.T .x1 (.a (.m 100 .x0) (.k 100)))) (.i (.E (.a (.m 100 .x0) .x2) .x1) (.T .x2 (.k 100)))))) _ _ _ _ e (Om.zdv _ 100 rfl) (Int.mul_ediv_add_emod _ 100))
  refine ⟨cN ((Om.q 1 4 (.i (.E .x3 .x2) (.i (.E (.c .x0) .x2) (.i (.a (.L (.m 100 .x0) .x1) (.T .x1 (.a (.m 100 .x0) (.k 100)))) (.i (.E (.a (.m 100 .x0) .x2) .x1) (.L .k0 .x2)))))) _ _ _ _ _ e h2 (Om.zdv _ 100 rfl) (Int.mul_ediv_add_emod _ 100)) ((Om.q 1 4 (.i (.E .x3 .x2) (.i (.E (.c .x0) .x2) (.i (.a (.L (.m 100 .x0) .x1) (.T .x1 (.a (.m 100 .x0) (.k 100)))) (.i (.E (.a (.m 100 .x0) .x2) .x1) (.T .x2 (.k 1000000000))))))) _ _ _ _ _ e h2 (Om.zdv _ 100 rfl) (Int.mul_ediv_add_emod _ 100)) (by decide), by exact (Om.q 1 0 (.i (.e .x0 (.k 2)) (.a (.l (.k 2) .x0) (.l .x0 (.k 4))))) _ h1, ?_⟩
  unfold aD
  rw [h1, h2, if_pos (by decide)]
  split <;> (first | exact (Om.q 1 4 (.i (.L .k1 .x3) (.i (.L .x3 (.k 9999)) (.i (.L (.k 1950) .x3) (.i (.L .x3 (.k 2049)) (.i (.E .x2 .x0) (.i (.E (.c .x0) .x0) (.i (.T .x0 (.k 50)) (.i (.a (.L (.m 100 .x1) .x3) (.T .x3 (.a (.m 100 .x1) (.k 100)))) (.i (.E (.a (.m 100 .x1) .x0) .x3) (.E (.a .x0 (.k 2000)) .x3))))))))))) _ _ _ _ _ y1 y2 a b e h2 (by assumption) (Om.zdv _ 100 rfl) (Int.mul_ediv_add_emod _ 100) | exact (Om.q 1 4 (.i (.L .k1 .x3) (.i (.L .x3 (.k 9999)) (.i (.L (.k 1950) .x3) (.i (.L .x3 (.k 2049)) (.i (.E .x2 .x0) (.i (.E (.c .x0) .x0) (.i (.n (.T .x0 (.k 50))) (.i (.a (.L (.m 100 .x1) .x3) (.T .x3 (.a (.m 100 .x1) (.k 100)))) (.i (.E (.a (.m 100 .x1) .x0) .x3) (.E (.a .x0 (.k 1900)) .x3))))))))))) _ _ _ _ _ y1 y2 a b e h2 (by assumption) (Om.zdv _ 100 rfl) (Int.mul_ediv_add_emod _ 100))
 ·obtain ⟨h1, h2⟩ := val3 (n := y - 1900) ((Om.q 0 1 .f48) _ y1 y2 a b) ((Om.q 0 1 (.i (.L .k1 .x0) (.i (.L .x0 (.k 9999)) (.i (.L (.k 1900) .x0) (.i (.L .x0 (.k 2899)) (.T (.s .x0 (.k 1900)) (.k 1000))))))) _ y1 y2 a b)
  refine ⟨cN ((Om.q 1 1 (.i (.L .k1 .x0) (.i (.L .x0 (.k 9999)) (.i (.L (.k 1900) .x0) (.i (.L .x0 (.k 2899)) (.i (.E (.c .x0) (.s .x0 (.k 1900))) (.L .k0 (.s .x0 (.k 1900))))))))) _ _ y1 y2 a b h2) ((Om.q 1 1 (.i (.L .k1 .x0) (.i (.L .x0 (.k 9999)) (.i (.L (.k 1900) .x0) (.i (.L .x0 (.k 2899)) (.i (.E (.c .x0) (.s .x0 (.k 1900))) (.T (.s .x0 (.k 1900)) (.k 1000000000)))))))) _ _ y1 y2 a b h2) (by decide), by exact (Om.q 1 0 (.i (.e .x0 (.k 3)) (.a (.l (.k 2) .x0) (.l .x0 (.k 4))))) _ h1, ?_⟩
  unfold aD
  rw [h1, h2, if_neg (by decide), if_pos (by decide)]
  exact (Om.q 0 1 (.E (.a (.s .x0 (.k 1900)) (.k 1900)) .x0)) _
 ·obtain ⟨h1, h2⟩ := val4 (n := y) ((Om.q 0 1 .f2) _ y1 y2) ((Om.q 0 1 (.i (.L .k1 .x0) (.i (.L .x0 (.k 9999)) (.T .x0 (.k 10000))))) _ y1 y2)
  refine ⟨cN ((Om.q 1 1 (.i (.L .k1 .x0) (.i (.L .x0 (.k 9999)) (.i (.E (.c .x0) .x0) (.L .k0 .x0))))) _ _ y1 y2 h2) ((Om.q 1 1 (.i (.L .k1 .x0) (.i (.L .x0 (.k 9999)) (.i (.E (.c .x0) .x0) (.T .x0 (.k 1000000000)))))) _ _ y1 y2 h2) (by decide), by exact (Om.q 1 0 (.i (.e .x0 (.k 4)) (.a (.l (.k 2) .x0) (.l .x0 (.k 4))))) _ h1, ?_⟩
  unfold aD
  rw [h1, h2, if_neg (by decide), if_neg (by decide)]
theorem mon_all : ∀ i < 12, aC (names12.getD i []) = i + 1 /\ aC (uppL (names12.getD i [])) = i + 1 := by decide +kernel
theorem num_mon {m : Int} {t : List Nat} (h : monW m t) (m1 : 1 <= m) (m2 : m <= 12) : (aC t : Int) = m := by
 obtain ⟨h1, h2⟩ := mon_all (m - 1).toNat ((Om.q 1 1 .f9) _ _ m1 m2 (Om.tno _))
 rcases h with rfl | rfl
 ·unfold ak; rw [h1]; exact (Om.q 3 1 .f97) _ _ _ _ m1 m2 h1 h2 (Om.tno _)
 ·unfold ak; rw [h2]; exact (Om.q 3 1 .f97) _ _ _ _ m1 m2 h1 h2 (Om.tno _)
theorem zone_all : ∀ nm ∈ zones13.map (fun p => p.1), bv nm = bG nm zones13 /\ bv (uppL nm) = bG nm zones13 := by decide +kernel
theorem two_of {t : List Nat} (h : t.length = 2) : ∃ a b, t = [a, b] := by
 match t, h with
 | [a, b], _ => exact ⟨a, b, rfl⟩
theorem jb {a : Nat} {m : Int} (ha : a = 43 \/ a = 45) (h0 : 0 <= m) (h1 : m <= 5999) : bv ([a] ++ padI (m.fdiv 60) 2 ++ padI (m.fmod 60) 2) = some (if a = 45 then -m else m) := by
 have e : m.fdiv 60 * 60 + m.fmod 60 = m := by rw [Int.mul_comm]; exact Int.mul_fdiv_add_fmod m 60
 have f1 := Int.fmod_nonneg_of_pos m (b := 60) (by decide)
 have f2 := Int.fmod_lt_of_pos m (b := 60) (by decide)
 generalize m.fdiv 60 = q at e ⊢
 generalize m.fmod 60 = r at e f1 f2 ⊢
 obtain ⟨l1, v1⟩ := val2 (n := q) ((Om.q 0 4 (.i (.L .k0 .x3) (.i (.L .x3 (.k 5999)) (.i (.E (.a .x2 .x0) .x3) (.i (.L .k0 .x0) (.i (.T .x0 (.k 60)) (.i (.E .x2 (.m 60 .x1)) (.L .k0 .x1)))))))) _ _ _ _ h0 h1 e f1 f2 (Int.mul_comm _ _)) ((Om.q 0 4 (.i (.L .k0 .x3) (.i (.L .x3 (.k 5999)) (.i (.E (.a .x2 .x0) .x3) (.i (.L .k0 .x0) (.i (.T .x0 (.k 60)) (.i (.E .x2 (.m 60 .x1)) (.T .x1 (.k 100))))))))) _ _ _ _ h0 h1 e f1 f2 (Int.mul_comm _ _))
 obtain ⟨l2, v2⟩ := val2 (n := r) f1 ((Om.q 0 1 (.i (.L .k0 .x0) (.i (.T .x0 (.k 60)) (.T .x0 (.k 100))))) _ f1 f2)
 have d1 := aU (n := q) (w := 2)
 have d2 := aU (n := r) (w := 2)
 obtain ⟨b, c, e1⟩ := two_of l1
 obtain ⟨d, f, e2⟩ := two_of l2
 rw [e1] at v1 d1 ⊢
 rw [e2] at v2 d2 ⊢
 show bv [a, b, c, d, f] = _
 unfold bv
 have g : bE [b, c, d, f] = true := by
  unfold bE
  rw [decide_eq_true (by simp), Bool.true_and, List.all_eq_true]
  intro x hx
  have : 48 <= x /\ x <= 57 := by
   rcases List.mem_append.mp (show x ∈ [b, c] ++ [d, f] from hx) with h | h
   ·exact d1 x h
   ·exact d2 x h
  rw [decide_eq_true this.1, decide_eq_true this.2]; rfl
 rw [eS, v1, v2, e, g, if_pos]
 rw [decide_eq_true (by exact (Om.q 1 1 (.i (.L .k0 .x0) (.i (.T .x0 (.k 60)) (.i (.E (.c .x0) .x0) (.l .x0 (.k 59)))))) _ _ f1 f2 v2)]
 rcases ha with rfl | rfl <;> rfl
theorem num_zone {t : List Nat} {z : Int} (h : cD t z) : bv t = some z := by
 have hp : S "+" = [43] := by decide +kernel
 rcases h with ⟨nm, hm, hh, hz⟩ | ⟨m, h0, h1, ⟨rfl, rfl⟩ | ⟨rfl, rfl⟩⟩
 ·obtain ⟨a, b⟩ := zone_all nm hm
  rcases hh with rfl | rfl
  ·rw [a, hz]
  ·rw [b, hz]
 ·rw [hp, jb (.inl rfl) h0 h1]; rfl
 ·rw [Sm, jb (.inr rfl) h0 h1]; rfl
theorem fig_noday {t : List Nat} (h : bE t = true) : low7.contains (lowT t) = false := by
 have := (aZ h).1
 cases t with
 | nil => decide +kernel
 | cons c r =>
  have hc := this c (.head _)
  have e : lowT (c :: r) = lc c :: lowT r := rfl
  have hl : lc c = c := by unfold lc; rw [if_neg (by exact (Om.q 1 0 (.i (.a (.l (.k 48) .x0) (.l .x0 (.k 57))) (.n (.a (.l (.k 65) .x0) (.l .x0 (.k 90)))))) _ hc)]
  rw [e, hl, Bool.eq_false_iff]
  intro hm
  have := Nat.le_of_ble_eq_true (List.all_eq_true.mp (show low7.all (fun l => Nat.ble 97 (l.headD 97)) = true by decide +kernel) _ (List.contains_iff_mem.mp hm))
  exact absurd (Nat.le_trans this hc.2) (by decide)
theorem at_dk {dk r : List Kd} {i : Nat} : (dk ++ r)[dk.length + i]? = r[i]? := by
 rw [List.getElem?_append_right (by exact (Om.q 2 0 (.l .x1 (.a .x1 .x0))) _ _)]; congr 1; exact (Om.q 3 0 (.i (.o (.a (.l .x1 (.a .x1 .x0)) (.e (.a .x2 .x1) (.a .x1 .x0))) (.a (.t (.a .x1 .x0) .x1) (.e .x2 .k0))) (.e .x2 .x0))) _ _ _ (Om.sbo _ _)
theorem dj {ts : List Tk} {a n lo hi v : Int} {t : List Nat} (h : ad ts a = t) (hf : bE t = true) (h1 : lo <= (t.length : Int)) (h2 : (t.length : Int) <= hi) (hv : (digitsVal t : Int) = v) : numR ts a n lo hi = .ok (v, (t.length : Int)) := by
 unfold numR
 rw [h, hf, decide_eq_true h1, decide_eq_true h2, hv]; rfl
theorem bK {n w : Int} : ∀ c ∈ padI n w, c < 256 := fun c hc => by have := aU c hc; exact (Om.q 1 0 .f26) _ this
theorem clock_run {ts : List Tk} {pre r : List Kd} {ck : List Kd} {t5 : List Nat} {h mi s n : Int} (hk : ts.map kd = pre ++ (ck ++ [kA t5])) (hc : clockK h mi s ck) (h1 : 0 <= h) (h2 : h <= 23) (i1 : 0 <= mi) (i2 : mi <= 59) (s1 : 0 <= s) (s2 : s <= 60) : aW ts (pre.length : Nat) n = .ok ((h, mi, s), ((pre.length + ck.length : Nat) : Int)) := by
 have at_ : ∀ i, (pre ++ (ck ++ [kA t5]))[pre.length + i]? = (ck ++ [kA t5])[i]? := fun i => at_dk
 obtain ⟨a1, a2⟩ := val2 (n := h) ((Om.q 0 1 .f35) _ h1 h2) ((Om.q 0 1 (.i (.L .k0 .x0) (.i (.L .x0 (.k 23)) (.T .x0 (.k 100))))) _ h1 h2)
 obtain ⟨b1, b2⟩ := val2 (n := mi) ((Om.q 0 1 .f36) _ i1 i2) ((Om.q 0 1 (.i (.L .k0 .x0) (.i (.L .x0 (.k 59)) (.T .x0 (.k 100))))) _ i1 i2)
 obtain ⟨c1, c2⟩ := val2 (n := s) ((Om.q 0 1 .f37) _ s1 s2) ((Om.q 0 1 (.i (.L .k0 .x0) (.i (.L .x0 (.k 60)) (.T .x0 (.k 100))))) _ s1 s2)
 have fh := cN (n := h) (w := 2) ((Om.q 1 1 (.i (.L .k0 .x0) (.i (.L .x0 (.k 23)) (.i (.E (.c .x0) .x0) (.L .k0 .x0))))) _ _ h1 h2 a2) ((Om.q 1 1 (.i (.L .k0 .x0) (.i (.L .x0 (.k 23)) (.i (.E (.c .x0) .x0) (.T .x0 (.k 1000000000)))))) _ _ h1 h2 a2) (by decide)
 have fm := cN (n := mi) (w := 2) ((Om.q 1 1 (.i (.L .k0 .x0) (.i (.L .x0 (.k 59)) (.i (.E (.c .x0) .x0) (.L .k0 .x0))))) _ _ i1 i2 b2) ((Om.q 1 1 (.i (.L .k0 .x0) (.i (.L .x0 (.k 59)) (.i (.E (.c .x0) .x0) (.T .x0 (.k 1000000000)))))) _ _ i1 i2 b2) (by decide)
 have fs := cN (n := s) (w := 2) ((Om.q 1 1 (.i (.L .k0 .x0) (.i (.L .x0 (.k 60)) (.i (.E (.c .x0) .x0) (.L .k0 .x0))))) _ _ s1 s2 c2) ((Om.q 1 1 (.i (.L .k0 .x0) (.i (.L .x0 (.k 60)) (.i (.E (.c .x0) .x0) (.T .x0 (.k 1000000000)))))) _ _ s1 s2 c2) (by decide)
 unfold aW
 rcases hc with ⟨rfl, rfl⟩ | rfl
 ·rw [dj (bp hk (i := pre.length + 0) (by simp) (at_ 0) bK) fh (by exact (Om.q 1 0 .f16) _ a1) (by exact (Om.q 1 0 .f17) _ a1) a2]
  dsimp only
  rw [eZ hk (i := pre.length + 1) (c := 58) (by simp) (at_ 1), if_neg (by decide), dj (bp hk (i := pre.length + 2) (by simp) (at_ 2) bK) fm (by exact (Om.q 1 0 .f16) _ b1) (by exact (Om.q 1 0 .f17) _ b1) b2]
  dsimp only
  rw [isSg_no hk (i := pre.length + 3) (c := 58) (by simp) (at_ 3), if_neg (by decide)]
  rfl
 ·rw [dj (bp hk (i := pre.length + 0) (by simp) (at_ 0) bK) fh (by exact (Om.q 1 0 .f16) _ a1) (by exact (Om.q 1 0 .f17) _ a1) a2]
  dsimp only
  rw [eZ hk (i := pre.length + 1) (c := 58) (by simp) (at_ 1), if_neg (by decide), dj (bp hk (i := pre.length + 2) (by simp) (at_ 2) bK) fm (by exact (Om.q 1 0 .f16) _ b1) (by exact (Om.q 1 0 .f17) _ b1) b2]
  dsimp only
  rw [eZ hk (i := pre.length + 3) (c := 58) (by simp) (at_ 3), if_pos rfl, dj (bp hk (i := pre.length + 4) (by simp) (at_ 4) bK) fs (by exact (Om.q 1 0 .f16) _ c1) (by exact (Om.q 1 0 .f17) _ c1) c2]
  rfl
theorem beg_run {ts : List Tk} {dk r : List Kd} {t1 : List Nat} (hk : ts.map kd = dk ++ (kA t1 :: r)) (hd : dayK dk) (hf : bE t1 = true) : begA ts = (dk.length : Nat) := by
 have h256 : ∀ c ∈ t1, c < 256 := fun c hc => by have := (aZ hf).1 c hc; exact (Om.q 1 0 .f26) _ this
 unfold begA
 rcases hd with rfl | ⟨x, hx, hx2, rfl | rfl⟩
 ·rw [show ad ts 0 = t1 from bp hk (i := 0) rfl rfl h256, fig_noday hf, if_neg (by decide)]; rfl
 ·rw [show ad ts 0 = x from bp hk (i := 0) rfl rfl hx2, if_pos hx, show isSg ts 1 [44] = false from isSg_no hk (i := 1) (c := 44) rfl rfl, if_neg (by decide)]; rfl
 ·rw [show ad ts 0 = x from bp hk (i := 0) rfl rfl hx2, if_pos hx, show isSg ts 1 [44] = true from eZ hk (i := 1) (c := 44) rfl rfl, if_pos rfl]; rfl
theorem zone_256 {t : List Nat} {z : Int} (h : cD t z) : ∀ c ∈ t, c < 256 := by
 rcases h with ⟨nm, hm, hh, -⟩ | ⟨m, h0, h1, ⟨rfl, -⟩ | ⟨rfl, -⟩⟩
 ·obtain ⟨a, b⟩ := zones13_atom nm hm
  rcases hh with rfl | rfl
  ·exact fun c hc => (a.2 c hc).1
  ·exact fun c hc => (b.2 c hc).1
 ·have hp : S "+" = [43] := by decide +kernel
  rw [hp]
  intro c hc
  simp at hc
  rcases hc with rfl | hc | hc
  ·decide
  ·exact bK c hc
  ·exact bK c hc
 ·rw [Sm]
  intro c hc
  simp at hc
  rcases hc with rfl | hc | hc
  ·decide
  ·exact bK c hc
  ·exact bK c hc
theorem plain : Plain := by
 intro ws w y m d h mi s z S0 M g
 have hne : ∀ t ∈ ws, t ≠ [] := by
  obtain ⟨y1, y2, m1, m2, d1, d2, h1, h2, i1, i2, s1, s2, z1, z2⟩ := M
  dsimp only at y1 y2 m1 m2 d1 d2 h1 h2 i1 i2 s1 s2 z1 z2
  have hml := bM (y := y) (m := m)
  exact fun t ht => ((okW_mem S0 y1 y2 m1 m2 d1 ((Om.q 0 2 .f25) _ _ d2 hml) h1 h2 i1 i2 s1 s2).2 t ht).1
 obtain ⟨dk, ck, t1, t2, t3, t5, k0, k4, n1, n2, n3, n5, gk⟩ := said_lex S0 M
 have hL := glue_lex g hne gk [] [] (.inl rfl) Lex.nil
 rw [List.append_nil, List.append_nil] at hL
 obtain ⟨ts, e1, hk⟩ := hL.tokens
 unfold bD
 rw [e1]
 dsimp only
 generalize bare ts = T at hk
 obtain ⟨y1, y2, m1, m2, d1, d2, h1, h2, i1, i2, s1, s2, z1, z2⟩ := M
 dsimp only at y1 y2 m1 m2 d1 d2 h1 h2 i1 i2 s1 s2 z1 z2
 have hml := bM (y := y) (m := m)
 obtain ⟨f1, l1, v1⟩ := num_day n1 d1 ((Om.q 0 2 .f25) _ _ d2 hml)
 obtain ⟨f3, l3, v3⟩ := num_year n3 y1 y2
 have v2 := num_mon n2 m1 m2
 have b1 : ∀ c ∈ t1, c < 256 := fun c hc => by have := (aZ f1).1 c hc; exact (Om.q 1 0 .f26) _ this
 have b3 : ∀ c ∈ t3, c < 256 := fun c hc => by have := (aZ f3).1 c hc; exact (Om.q 1 0 .f26) _ this
 have b2 : ∀ c ∈ t2, c < 256 := by
  have hm : ak m ∈ names12 := dK (by show _ < 12; exact (Om.q 2 1 (.i (.L .k1 .x0) (.i (.L .x0 (.k 12)) (.i (.E (.c .x1) .x0) (.i (.o (.a (.L .k0 (.s .x0 .k1)) (.E (.c .x0) (.s .x0 .k1))) (.a (.T (.s .x0 .k1) .k0) (.e .x0 .k0))) (.t .x0 (.k 12))))))) _ _ _ m1 m2 v2 (Om.tno _))
  rcases n2 with rfl | rfl
  ·exact fun c hc => ((names12_atom _ hm).1.2 c hc).1
  ·exact fun c hc => ((names12_atom _ hm).2.2 c hc).1
 have hk1 : T.map kd = dk ++ (kA t1 :: ([kA t2] ++ ([kA t3] ++ (ck ++ [kA t5])))) := hk
 have at_ : ∀ i, (dk ++ (kA t1 :: ([kA t2] ++ ([kA t3] ++ (ck ++ [kA t5])))))[dk.length + i]? = (kA t1 :: ([kA t2] ++ ([kA t3] ++ (ck ++ [kA t5]))))[i]? := fun i => at_dk
 have hk2 : T.map kd = (dk ++ [kA t1, kA t2, kA t3]) ++ (ck ++ [kA t5]) := by rw [hk]; simp
 have hc := clock_run (r := []) (n := ((encB w).length : Nat)) hk2 k4 h1 h2 i1 i2 s1 s2
 have hz : (dk ++ (kA t1 :: ([kA t2] ++ ([kA t3] ++ (ck ++ [kA t5])))))[dk.length + (3 + ck.length)]? = some (kA t5) := by
  rw [at_]
  show (kA t1 :: kA t2 :: kA t3 :: (ck ++ [kA t5]))[3 + ck.length]? = _
  rw [show 3 + ck.length = ck.length + 1 + 1 + 1 by exact (Om.q 1 0 (.e (.a (.k 3) .x0) (.a (.a (.a .x0 .k1) .k1) .k1))) _, List.getElem?_cons_succ, List.getElem?_cons_succ, List.getElem?_cons_succ]
  simp
 have hlen : T.length = dk.length + 3 + ck.length + 1 := by
  have := congrArg List.length hk
  simp at this
  exact (Om.q 3 0 (.i (.e .x2 (.a .x1 (.a (.a (.a (.a .x0 .k1) .k1) .k1) .k1))) (.e .x2 (.a (.a (.a .x1 (.k 3)) .x0) .k1)))) _ _ _ this
 rw [dateR_A, beg_run hk1 k0 f1]
 rw [lu, dj (bp hk1 (i := dk.length + 0) (by simp) (at_ 0) b1) f1 (by exact (Om.q 1 0 (.i (.a (.l .k1 .x0) (.l .x0 (.k 2))) (.L .k1 (.c .x0)))) _ l1) (by exact (Om.q 1 0 (.i (.a (.l .k1 .x0) (.l .x0 (.k 2))) (.L (.c .x0) (.k 2)))) _ l1) v1]
 dsimp only
 rw [bp hk1 (i := dk.length + 1) (by simp) (at_ 1) b2, if_neg (by exact (Om.q 1 1 (.i (.L .k1 .x0) (.i (.L .x0 (.k 12)) (.i (.E (.c .x0) .x0) (.n (.e .x0 .k0)))))) _ _ m1 m2 v2), dj (bp hk1 (i := dk.length + 2) (by simp) (at_ 2) b3) f3 (by exact (Om.q 1 0 (.i (.a (.l (.k 2) .x0) (.l .x0 (.k 4))) (.L (.k 2) (.c .x0)))) _ l3) (by exact (Om.q 1 0 (.i (.a (.l (.k 2) .x0) (.l .x0 (.k 4))) (.L (.c .x0) (.k 4)))) _ l3) rfl]
 dsimp only
 rw [v3, v2, if_neg]
 ·rw [show ((dk.length : Nat) : Int) + 3 = (((dk ++ [kA t1, kA t2, kA t3]).length : Nat) : Int) by simp, hc]
  dsimp only
  rw [if_neg, bp hk1 (i := dk.length + (3 + ck.length)) (by simp; exact (Om.q 2 0 (.E (.a (.a (.c .x1) (.k 3)) (.c .x0)) (.a (.c .x1) (.a (.k 3) (.c .x0))))) _ _) hz (zone_256 n5), num_zone n5]
  ·dsimp only
   rw [if_neg]
   rw [hlen]; simp
  ·unfold cn
   rw [decide_eq_true h1, decide_eq_true h2, decide_eq_true i1, decide_eq_true i2, decide_eq_true s1, decide_eq_true s2]; decide
 ·unfold ew
  rw [decide_eq_true y1, decide_eq_true y2, decide_eq_true m1, decide_eq_true m2, decide_eq_true d1, decide_eq_true d2]; decide
theorem figs_pad1 (n : Int) (h : 0 <= n) : figs n.toNat = padI n 1 := by
 obtain ⟨k, rfl⟩ : ∃ k : Nat, n = k := ⟨n.toNat, by exact (Om.q 1 1 (.i (.L .k0 .x0) (.i (.o (.a (.L .k0 .x0) (.E (.c .x0) .x0)) (.a (.T .x0 .k0) (.e .x0 .k0))) (.E .x0 (.c .x0))))) _ _ h (Om.tno _)⟩
 rw [show (1 : Int) = ((1 : Nat) : Int) from rfl, fN, Int.toNat_natCast]
 have : (figs k).length ≠ 0 := by
  intro e
  exact figs_ne k (List.eq_nil_of_length_eq_zero e)
 rw [show 1 - (figs k).length = 0 by exact (Om.q 2 0 (.i (.n (.e .x1 .k0)) (.i (.o (.a (.l .x1 .k1) (.e (.a .x0 .x1) .k1)) (.a (.t .k1 .x1) (.e .x0 .k0))) (.e .x0 .k0)))) _ _ this (Om.sbo _ _)]; rfl
theorem names7_in : ∀ i < 7, names7.getD i [] ∈ days7 := by decide +kernel
theorem kC {t : Mom} (M : MomOk t) : Said [aP t ++ S ",", padI t.day 1, ak t.month, padI t.year 4, aX (S ":") [padI t.hour 2, padI t.minute 2, padI t.second 2], bd t.zone] t.year t.month t.day t.hour t.minute t.second t.zone := by
 refine ⟨_, _, _, _, _, _, .inr ⟨aP t, ?_, S ",", .head _, .inl rfl⟩, .inl rfl, .inl rfl, .inr (.inr rfl), ⟨S ":", .head _, .inr rfl⟩, .inr ⟨iabs t.zone, ?_, ?_, ?_⟩, rfl⟩
 ·have := cM t.year t.month t.day
  exact names7_in _ ((Om.q 1 1 .f75) _ _ this (Om.tno _))
 ·unfold iabs; split <;> (first | exact (Om.q 0 1 (.i (.T .x0 .k0) (.L .k0 (.g .x0)))) _ (by assumption) | exact (Om.q 0 1 (.i (.n (.T .x0 .k0)) (.L .k0 .x0))) _ (by assumption))
 ·have := M.z1; have := M.z2
  unfold iabs; split <;> (first | exact (Om.q 0 1 (.i (.L (.g (.k 5999)) .x0) (.i (.L .x0 (.k 5999)) (.i (.T .x0 .k0) (.L (.g .x0) (.k 5999)))))) _ (by assumption) this (by assumption) | exact (Om.q 0 1 (.i (.L (.g (.k 5999)) .x0) (.i (.L .x0 (.k 5999)) (.i (.n (.T .x0 .k0)) (.L .x0 (.k 5999)))))) _ (by assumption) this (by assumption))
 ·unfold bd
  by_cases h : t.zone < 0
  ·refine .inr ⟨?_, ?_⟩
   ·rw [decide_eq_true h]; rfl
   ·unfold iabs; rw [if_pos h]; exact (Om.q 0 1 (.E .x0 (.g (.g .x0)))) _
  ·refine .inl ⟨?_, ?_⟩
   ·rw [decide_eq_false h]; rfl
   ·unfold iabs; rw [if_neg h]
theorem kD {a b c d e f : List Nat} (h : a ≠ []) : Glue [a, b, c, d, e, f] (aX (S " ") [a, b, c, d, e ++ S " " ++ f]) := by
 have hs : S " " ∈ gaps8 := .head _
 have h1 : Glue [a] a := Glue.first (ws := []) .nil
 have h2 := Glue.more (t := b) h1 h hs
 have h3 := Glue.more (t := c) h2 (by simp [h]) hs
 have h4 := Glue.more (t := d) h3 (by simp [h]) hs
 have h5 := Glue.more (t := e) h4 (by simp [h]) hs
 have h6 := Glue.more (t := f) h5 (by simp [h]) hs
 simpa [gC] using h6
theorem plain2 : ∀ t, MomOk t -> bD (dC t) = .ok t := by
 intro t M
 have hg : Glue [aP t ++ S ",", padI t.day 1, ak t.month, padI t.year 4, aX (S ":") [padI t.hour 2, padI t.minute 2, padI t.second 2], bd t.zone] (aJ t) := by
  unfold aJ aK
  rw [figs_pad1 _ (by have := M.d1; exact (Om.q 0 1 (.i (.L .k1 .x0) (.L .k0 .x0))) _ this)]
  refine kD ?_
  intro e
  exact absurd (List.append_eq_nil_iff.mp e).2 (by decide +kernel)
 exact plain _ _ _ _ _ _ _ _ _ (kC M) M hg
theorem exn_of {G : Gx} {C : Addr} (h : nsIn G.K mainGlobals "WordFault" = some (some (.ref C))) (h1 : findIn G.K (.ref C) "__getattribute__" = some (some (.builtin "BaseException.__getattribute__"))) (h2 : findIn G.K (.ref C) "__getattr__" = some none) (h3 : subIn G.K (.ref C) (.type "BaseException") = some true) (h4 : hasDictIn G.K C = true) (h5 : findIn G.K (.ref C) "at" = some none) : ExnG G := fun D hD => by
 rw [h] at hD; cases hD; exact ⟨h1, h2, h3, h4, h5⟩
theorem well_ints {P : Params} {K : Frag} {W : Wd} {h : Heap} : ∀ {ns : List Int} {vs : List Value}, WellAll P h vs (ofPys (ns.map PyData.int)) -> RVs P K W vs (ns.map V.int) := by
 intro ns
 induction ns with
 | nil => intro vs x; cases x; exact .nil
 | cons n ns ih =>
  intro vs x
  rw [List.map_cons, ofPys, ofPy] at x
  cases x with
  | cons a b =>
   cases a
   exact .cons (.int _ _) (ih b)
theorem in_snoc {K : Frag} {h : Heap} {a : Addr} {o : Obj} (k : K.In h) (e : h.get? a = some o) : Frag.In (K ++ [(a, o)]) h := fun b x hx => by
 rw [List.lookup_append] at hx
 cases hk : K.lookup b with
 | some y => rw [hk] at hx; obtain rfl := Option.some.inj hx; exact k _ _ hk
 | none =>
  rw [hk] at hx
  simp only [Option.none_or, List.lookup] at hx
  split at hx
  ·rename_i q; obtain rfl := Option.some.inj hx; rw [beq_iff_eq.mp q]; exact e
  ·injection hx
theorem k9 {K : Frag} {h : Heap} {a : Addr} {o : Obj} (k : K.In h) (e : h.get? a = some o) : (K ++ [(a, o)]).lookup a = some o := by
 rw [List.lookup_append]
 cases hk : K.lookup a with
 | some y => have := k _ _ hk; rw [e] at this; obtain rfl := Option.some.inj this; rfl
 | none => simp [List.lookup]
theorem join {prog : Program} {w : World} {K : Frag} {p : Program} {loose : List Str} {mean : ExcName -> Option Value} {mg mb : Str -> Option Value} {s_1 : Shared} {fa a2 : Addr} {cd : Value} {ns : List Int} {h_1 : Heap} {L tk : Nat} {name : Str} {scope : Scope} {body : List Stmt} {m : Str -> Option Value}
  {Q : Flow -> Shared -> Prop} {E : Value -> Shared -> Prop}
  (hK : K.In s_1.heap) (T : Top p loose mean mg mb s_1.heap) (w1 : Well w.params s_1.heap (.ref a2) (ofPy (PyData.list (ns.map PyData.int)))) (hlen : ¬ (63 : Int) < (ns.length : Int))
  (F : Fr s_1.heap L h_1 m) (hm : m "script" = some (.ref a2))
  (hsc : scope = (dfAt 66).scope) (hb : body = (dfAt 66).body)
  (B : ∀ e : Frag, Nonempty (Base ⟨prog, w, K ++ e, p, loose, mean, mg, mb, s_1.heap, s_1.gens, s_1.drawn, s_1.os⟩)) (E0 : ∀ e : Frag, ExnG ⟨prog, w, K ++ e, p, loose, mean, mg, mb, s_1.heap, s_1.gens, s_1.drawn, s_1.os⟩)
  (hQ : ∀ s' m, Fr s_1.heap L s'.heap m -> s'.gens = s_1.gens -> s'.os = s_1.os -> Q (.ret (.bool true)) s') :
  wpAny (model prog w) (callerA.deeper (envOf name scope L fa cd)) (execs body (envOf name scope L fa cd)) Q E ⟨h_1, s_1.gens, s_1.drawn, tk, s_1.os⟩ := by
 subst hsc hb
 rw [ofPy] at w1
 cases w1 with
 | @list _ vs _ ha hv =>
 let e : Frag := [(a2, aA "list" .none vs 0 #[])]
 have hk' : Frag.In (K ++ e) s_1.heap := in_snoc hK ha
 obtain ⟨B⟩ := B e
 have E1 := E0 e
 generalize hG : (⟨prog, w, K ++ e, p, loose, mean, mg, mb, s_1.heap, s_1.gens, s_1.drawn, s_1.os⟩ : Gx) = G at B E1
 let X : Fx := ⟨callerA, callerA.deeper (envOf name (dfAt 66).scope L fa cd), [], s_1.heap, L, fa, name, (dfAt 66).scope, cd, 20, .fr, []⟩
 obtain ⟨o1, o2, o3⟩ := lw_ok
 have o : X.Ok G := by
  subst hG
  refine ⟨⟨hk', T⟩, below_caller s_1.heap, by rfl, by rfl, (by show callerA.depth + 1 + 20 < _; decide +kernel), (by show callerA.units + 3 + 8 * 20 < _; decide +kernel), by rfl, by rfl, by rfl⟩
 have key := law_all (G := G) (X := X) (ΦF := fun fl _ => fl = .ret (.bool true)) B E1 plain plain2 o rfl rfl rfl rfl (show 12 <= 20 by decide) rfl (ns := ns) ((Om.q 1 0 (.i (.n (.T (.k 63) (.c .x0))) (.l .x0 (.k 1000)))) _ hlen) fun _ => rfl
 have st : Sta G X ⟨lwL none none none none none none none (some (.lst (ns.map .int))) none none none none none none none none none none none none none none none none none none none, lwG, []⟩ := by
  refine ⟨?_, ?_, ?_⟩
  ·show (["pool", "year", "month", "day", "words", "hour", "minute", "script", "is_bent", "name", "second", "clock", "text", "zone", "whole", "word", "octets", "moment", "laid", "due", "at", "piece", "told", "fault", "error", "tokens", "place"] : List Str).Nodup
   decide +kernel
  ·intro x hx
   have := List.all_eq_true.mp o2 x hx
   simp only [Bool.and_eq_true, beq_iff_eq, Bool.not_eq_true'] at this
   exact this
  ·intro q hq
   obtain ⟨⟨g1, g2⟩, g3⟩ := fE o1 (lwG_gls B) q hq
   exact ⟨g1, g2, g3⟩
 have R : RelS G X ⟨[], []⟩ ⟨lwL none none none none none none none (some (.lst (ns.map .int))) none none none none none none none none none none none none none none none none none none none, lwG, []⟩ ⟨h_1, s_1.gens, s_1.drawn, tk, s_1.os⟩ := by
  refine ⟨⟨m, [], F, News.nil, List.nodup_nil, ?_, .nil, st, trivial⟩, by subst hG; exact ⟨rfl, rfl, rfl⟩⟩
  show ∀ x d, _ -> _
  intro x d hx
  simp only [List.mem_cons, Prod.mk.injEq, reduceCtorEq, and_false, false_or, List.not_mem_nil, or_false, Option.some.injEq] at hx
  obtain ⟨rfl, rfl⟩ := hx
  refine ⟨_, hm, ?_⟩
  subst hG
  exact .lst (.inl (k9 hK ha)) (well_ints hv)
 have fin := key ⟨[], []⟩ _ R
 subst hG
 refine wpAny_mono fin (fun f s_2 yy => ?_) fun _ _ y => (cx y).elim
 obtain ⟨W', fl, σ', rf, R', e⟩ := yy
 subst e
 cases rf with
 | ret h =>
  cases h
  obtain ⟨⟨m', M, r⟩, sh⟩ := R'
  exact hQ _ _ r.fr sh.gens sh.os
theorem fa_k {K : Frag} {m q : Str} {D : Df} {f c : Addr} {pm : Value} (h2 : K.lookup f = some (fo f m q D .none pm c).2) (h3 : codeIn K (.ref c) q = true) : FnAt K f m q D.params D.body D.scope .none := ⟨_, _, _, _, _, _, _, _, _, h2, h3⟩
theorem fn_k {G : Gx} {x : Str} {D : Df} (f c : Addr) (pm : Value) (h1 : nsIn G.K mainGlobals x = some (some (.ref f)) := by kernel_rfl) (h2 : G.K.lookup f = some (fo f x x D .none pm c).2 := by kernel_rfl) (h3 : codeIn G.K (.ref c) x = true := by kernel_rfl) : FnG G x D := ⟨f, h1, fa_k h2 h3, by unfold keepIn; dsimp only; rw [h2]⟩
theorem ik {G : Gx} {c' m q : Str} {D : Df} {C f c : Addr} {pm : Value} (h0 : nsIn G.K mainGlobals c' = some (some (.ref C))) (h1 : findIn G.K (.ref C) m = some (some (.ref f))) (h2 : G.K.lookup f = some (fo f m q D .none pm c).2) (h3 : codeIn G.K (.ref c) q = true) : MthG G c' m q D := ⟨C, f, h0, h1, fa_k h2 h3, by unfold keepIn; dsimp only; rw [h2], by unfold isFn typeIn; dsimp only; rw [h2]; rfl⟩
noncomputable def pmAt (k : Nat) : Value := if k <= 5 then vs "postkeep.octets" 245 else if k <= 20 then vs "postkeep.tokens" 260 else if k <= 49 then vs "postkeep.dates" 368 else vs "law_no0377_01" 694
theorem fns_k {G : Gx} {P : Params} {e : Frag} (hK : G.K = kobj P ++ e) : ∀ t ∈ fnTab, FnG G t.1 (dfAt t.2.1) := by
 have H : fnTab.map (fun t => (nsIn (kobj P ++ e) mainGlobals t.1, (kobj P ++ e).lookup t.2.2, codeIn (kobj P ++ e) (.ref (t.2.2 - 1)) t.1)) = fnTab.map (fun t => (some (some (.ref t.2.2)), some (fo t.2.2 t.1 t.1 (dfAt t.2.1) .none (pmAt t.2.1) (t.2.2 - 1)).2, true)) := by kernel_rfl
 intro t ht
 have h := List.map_inj_left.mp H t ht
 rw [<- hK] at h
 injection h with h1 h
 injection h with h2 h3
 exact fn_k _ _ _ h1 h2 h3
noncomputable def baseK (prog : Program) (w : World) (p : Program) (loose : List Str) (mean : ExcName -> Option Value) (mg mb : Str -> Option Value) (base : Heap) (gens : Array GenState) (drawn : Drawn) (os : OsState) (e : Frag) : Base ⟨prog, w, kobj w.params ++ e, p, loose, mean, mg, mb, base, gens, drawn, os⟩ := { word := { C := _, P := _, fI := _, T := _, tT := _, dT := _, nT := _, slT := _, nm := _, q := _, N := _, bs := _, hdct := _, sn := _, sub := _, ab := _, col := _, dd := _, k0 := _, k1 := _, k2 := _, k3 := _, k5 := _, cd := _, gl := by with_unfolding_all rfl, keep := by with_unfolding_all rfl, cls := by with_unfolding_all rfl, init := by with_unfolding_all rfl, fn := by with_unfolding_all rfl, at_ := ⟨_, _, _, _, _, _, _, _, _, by with_unfolding_all rfl, by with_unfolding_all rfl⟩, dflt := by with_unfolding_all rfl, set := by with_unfolding_all rfl, ci := by with_unfolding_all rfl, mro := by with_unfolding_all rfl, dict := by with_unfolding_all rfl, t1 := by with_unfolding_all rfl, t2 := by with_unfolding_all rfl, ini := by with_unfolding_all rfl, exc := aV (v := .type "Exception") (by kernel_rfl) (by decide +kernel) (by kernel_rfl) }, fns := fns_k rfl, MONTHS := ⟨.ref 136, .inl (by kernel_rfl), fun W => .tup (vs := [vs "Jan" 370, vs "Feb" 371, vs "Mar" 372, vs "Apr" 373, vs "May" 374, vs "Jun" 375, vs "Jul" 376, vs "Aug" 377, vs "Sep" 378, vs "Oct" 379, vs "Nov" 380, vs "Dec" 381]) (n := 0) (sl := #[]) (.inl (by kernel_rfl)) (.cons (.str _ _) (.cons (.str _ _) (.cons (.str _ _) (.cons (.str _ _) (.cons (.str _ _) (.cons (.str _ _) (.cons (.str _ _) (.cons (.str _ _) (.cons (.str _ _) (.cons (.str _ _) (.cons (.str _ _) (.cons (.str _ _) .nil))))))))))))⟩, DAYS := ⟨.ref 137, .inl (by kernel_rfl), fun W => .tup (vs := [vs "Mon" 383, vs "Tue" 384, vs "Wed" 385, vs "Thu" 386, vs "Fri" 387, vs "Sat" 388, vs "Sun" 389]) (n := 0) (sl := #[]) (.inl (by kernel_rfl)) (.cons (.str _ _) (.cons (.str _ _) (.cons (.str _ _) (.cons (.str _ _) (.cons (.str _ _) (.cons (.str _ _) (.cons (.str _ _) .nil)))))))⟩, lmonths := ⟨.ref 367, .inl (by kernel_rfl), fun W => .tup (vs := [vs "Jan" 712, vs "Feb" 713, vs "Mar" 714, vs "Apr" 715, vs "May" 716, vs "Jun" 717, vs "Jul" 718, vs "Aug" 719, vs "Sep" 720, vs "Oct" 721, vs "Nov" 722, vs "Dec" 723]) (n := 0) (sl := #[]) (.inl (by kernel_rfl)) (.cons (.str _ _) (.cons (.str _ _) (.cons (.str _ _) (.cons (.str _ _) (.cons (.str _ _) (.cons (.str _ _) (.cons (.str _ _) (.cons (.str _ _) (.cons (.str _ _) (.cons (.str _ _) (.cons (.str _ _) (.cons (.str _ _) .nil))))))))))))⟩, ldays := ⟨.ref 368, .inl (by kernel_rfl), fun W => .tup (vs := [vs "Sat" 725, vs "Sun" 726, vs "Mon" 727, vs "Tue" 728, vs "Wed" 729, vs "Thu" 730, vs "Fri" 731]) (n := 0) (sl := #[]) (.inl (by kernel_rfl)) (.cons (.str _ _) (.cons (.str _ _) (.cons (.str _ _) (.cons (.str _ _) (.cons (.str _ _) (.cons (.str _ _) (.cons (.str _ _) .nil)))))))⟩, MOST_DEPTH := ⟨.int 20 262, .inl (by kernel_rfl), fun W => .int _ _⟩, SIGNS := ⟨.bytes #[60, 62, 64, 44, 59, 58, 46, 92] 264, .inl (by kernel_rfl), fun W => .bytes _ _⟩, ATOM_SIGNS := ⟨.bytes #[33, 35, 36, 37, 38, 39, 42, 43, 45, 47, 61, 63, 94, 95, 96, 123, 124, 125, 126] 266, .inl (by kernel_rfl), fun W => .bytes _ _⟩, NEVER := ⟨.ref 67, .inl (by kernel_rfl), fun W => .tup (vs := [.int 0 268, .int 10 269, .int 13 270]) (n := 0) (sl := #[]) (.inl (by kernel_rfl)) (.cons (.int _ _) (.cons (.int _ _) (.cons (.int _ _) .nil)))⟩, MOST_YEAR := ⟨.int 9999 391, .inl (by kernel_rfl), fun W => .int _ _⟩, MOST_ZONE := ⟨.int 5999 397, .inl (by kernel_rfl), fun W => .int _ _⟩, FIRST_DAY := ⟨.int 719162 399, .inl (by kernel_rfl), fun W => .int _ _⟩, len := aV (v := .builtin "len") (by kernel_rfl) (by decide +kernel) (by kernel_rfl), abs := aV (v := .builtin "abs") (by kernel_rfl) (by decide +kernel) (by kernel_rfl), chr := aV (v := .builtin "chr") (by kernel_rfl) (by decide +kernel) (by kernel_rfl), ord := aV (v := .builtin "ord") (by kernel_rfl) (by decide +kernel) (by kernel_rfl), sorted := aV (v := .builtin "sorted") (by kernel_rfl) (by decide +kernel) (by kernel_rfl), str := aV (v := .type "str") (by kernel_rfl) (by decide +kernel) (by kernel_rfl), int := aV (v := .type "int") (by kernel_rfl) (by decide +kernel) (by kernel_rfl), range := aV (v := .type "range") (by kernel_rfl) (by decide +kernel) (by kernel_rfl), bytes := aV (v := .type "bytes") (by kernel_rfl) (by decide +kernel) (by kernel_rfl), Moment := ⟨161, 151, by kernel_rfl, by kernel_rfl, by kernel_rfl, by kernel_rfl, by kernel_rfl, fa_k (c := 150) (pm := vs "postkeep.dates" 368) (by kernel_rfl) (by kernel_rfl), by kernel_rfl, by kernel_rfl, by kernel_rfl, by kernel_rfl, fun a h => by (simp only [List.mem_cons, List.not_mem_nil, or_false] at h; rcases h with rfl | rfl | rfl | rfl | rfl | rfl | rfl <;> exact ⟨by kernel_rfl, by kernel_rfl⟩)⟩, Reader := ⟨317, 281, by kernel_rfl, by kernel_rfl, by kernel_rfl, by kernel_rfl, by kernel_rfl, fa_k (c := 280) (pm := vs "postkeep.dates" 368) (by kernel_rfl) (by kernel_rfl), by kernel_rfl, by kernel_rfl, by kernel_rfl, by kernel_rfl, fun a h => by (simp only [List.mem_cons, List.not_mem_nil, or_false] at h; rcases h with rfl | rfl | rfl <;> exact ⟨by kernel_rfl, by kernel_rfl⟩)⟩, m_told := ik (C := 161) (f := 158) (c := 157) (pm := vs "postkeep.dates" 368) (by kernel_rfl) (by kernel_rfl) (by kernel_rfl) (by kernel_rfl), m_place := ik (C := 317) (f := 288) (c := 287) (pm := vs "postkeep.dates" 368) (by kernel_rfl) (by kernel_rfl) (by kernel_rfl) (by kernel_rfl), m_atom := ik (C := 317) (f := 293) (c := 292) (pm := vs "postkeep.dates" 368) (by kernel_rfl) (by kernel_rfl) (by kernel_rfl) (by kernel_rfl), m_skip := ik (C := 317) (f := 300) (c := 299) (pm := vs "postkeep.dates" 368) (by kernel_rfl) (by kernel_rfl) (by kernel_rfl) (by kernel_rfl), m_number := ik (C := 317) (f := 307) (c := 306) (pm := vs "postkeep.dates" 368) (by kernel_rfl) (by kernel_rfl) (by kernel_rfl) (by kernel_rfl), m_need := ik (C := 317) (f := 314) (c := 313) (pm := vs "postkeep.dates" 368) (by kernel_rfl) (by kernel_rfl) (by kernel_rfl) (by kernel_rfl) }
end Mine
set_option tactic.hygienic true
set_option maxHeartbeats 0 in
theorem PySem.Challenge.cw_no0377_01_holds : PySem.Challenge.rw_no0377_01.Holds := by
  refine holds_law Mine.k_said fun said => ?_
  refine holds_open (q := Mine.vview) (loose := Mine.vloose) (Xt := fun s => xlAt Mine.vview Mine.vlv s && recOk (RowW.records PySem.Challenge.rw_no0377_01.row.toRowW) s) (XP := XL Mine.vview Mine.vlv) (Yf := Mine.vhook.obs) (Ya := Mine.vhook.val) (YP := Mine.vhook.says) (N := 5580) Mine.vleft Mine.vhook.of Mine.vhook.keeps (fun s e => xl_of s (Bool.and_eq_true_iff.mp e).1) XL.keeps (by rfl) (by rfl) (by rfl) (fun s e => recFacts_of (Bool.and_eq_true_iff.mp e).2) (by rfl) said Mine.k_ok Mine.k_bare Mine.k_prom ?hc
  case hc =>
    intro w s₀ s_1 mg mb G Y fa o pm cd doc dV kV ho hd hcd hD hmg hg args vals as hpre hlay hrd hwl hlo
    have KX : (Mine.kobj w.params).In s_1.heap := Y
    have X := (Ground.X G).1
    have V := (Ground.X G).2
    refine Ground.open G ?_
    intro T B D TE TW
    try (refine guard_noD D (by decide +kernel) ?_; clear D)
    obtain ⟨_, _, M⟩ := bmod_of_top T
    have TA := at_of_top T
    try (obtain ⟨_, _, he, B0⟩ := based_of_top T rfl hmg ho hd; have he' : cd = _ := he; subst he'; clear he)
    clear hmg
    wrow_args hpre hlay hrd hwl hlo
    all_goals (
      first | refine callC_kw (enter_call ?_) | refine enter_call ?_ | refine callC_kw (enter_callW ?_) | refine enter_callW ?_ | w_how
      w_top on
      try refine codeAny_mono ?_ (fun _ _ g => GoodW.toG g)
      have K0 := below_caller (Top.heap T)
      w_call any ho hd hcd hD T F
      clear hd TA
      k_drop
      skip)
    refine Mine.join KX (by assumption) (by assumption) (by assumption) (by assumption) (by rfl) (by rfl) (by rfl) (fun e => ⟨Mine.baseK _ _ _ _ _ _ _ _ _ _ _ e⟩) (fun e => ?E) ?Q
    case E => exact Mine.exn_of (C := 52) (by kernel_rfl) (by kernel_rfl) (by kernel_rfl) (by kernel_rfl) (by kernel_rfl) (by kernel_rfl)
    case Q =>
      intro s' m F hg ho
      refine goodW_bool F (by first | exact hg | exact hg.trans (by assumption)) (raisesW_false ?_) ?_ ho
      · wrow_none_raised
      · wrow_post
