import PyProof.Rows.All
import Wide.All
import Wide.FinOn
import OpenK.KCell
import Open.Line
import Open.Head
import Lean
import PySem.Challenge.RW_pq1407_01
open PySem PySem.W PyProof.Rows
set_option Elab.async false
set_option maxRecDepth 100000
set_option linter.unusedVariables false
set_option linter.unusedSimpArgs false
set_option compiler.extract_closed false
namespace Mine
/-- the n-th statement of the text's top -/
noncomputable def stm (i : Nat) : Stmt := PySem.Challenge.pw_pq1407_01.main.body.getD i (.Pass ⟨0, 0, 0, 0⟩)
/-- a def's object -/
noncomputable def fnObj (s : Stmt) (q : String) (cd : Addr) (dv : Value) (md : String) (mt : Tok) : Obj := match s with
  | .FunctionDef name args body _ _ _ scope _ _ _ => ⟨.type "function", none, .func { name, qualname := .ofString q, params := args, body := .stmts body, scope, globals := 3, closure := [], defaults := dv, kwdefaults := .none, pyModule := .str (.ofString md) mt, code := .ref cd }, #[]⟩
  | _ => ⟨.none, none, .plain, #[]⟩
noncomputable def inClass (s : Stmt) (i : Nat) : Stmt := match s with
  | .ClassDef _ _ _ body _ _ _ _ _ _ _ => body.getD i (.Pass ⟨0, 0, 0, 0⟩)
  | _ => s
noncomputable def cdObj (n q : String) (t₁ : Tok) (line np : Int) (r₁ r₂ : Addr) (v₁ v₂ : Value) (r₃ : Value) (t₂ : Int) (t₃ : Tok) : Obj :=
  ⟨.type "code", none, .fields #[.str (.ofString n) t₁, .str (.ofString q) (t₁ + 1), .str (.ofString "/claim/cut.py") (t₁ + 2), .int line 0, .int np 0, .int 0 0, .int 0 0, .int 3 0, .ref r₁, .bool true, .int 181 0, .ref r₂, .none, v₁, v₂, r₃, .int t₂ 0, .int line 0, .str (.ofString "/claim/cut.py") t₃], #[]⟩
noncomputable def ent (P : Params) (k : String) (t : Tok) (v : Value) : DictEntry := { hash := PyData.keyHash P (.ofString k), key := .str (.ofString k) t, val := v }
noncomputable def K39 (P : Params) : Frag := [
  (3, ⟨.type "dict", none, .dict #[ent P "__name__" 165 (Value.str (Str.ofString "law_pq1407_01") 707), ent P "__doc__" 166 (Value.none), ent P "__package__" 167 (Value.none), ent P "__loader__" 168 (Value.builtin "__main__.__loader__#opaque"), ent P "__spec__" 169 (Value.none), ent P "__annotations__" 170 (Value.ref 6), ent P "__builtins__" 171 (Value.ref 4), ent P "__file__" 173 (Value.str (Str.ofString "/claim/cut.py") 172), ent P "__cached__" 174 (Value.none), ent P "_wall" 193 (Value.ref 21), ent P "CoveError" 215 (Value.ref 31), ent P "Refusal" 240 (Value.ref 51), ent P "NAN" 245 (Value.ref 54), ent P "MOST_FIGURES" 247 (Value.int 5000 246), ent P "MOST_PART" 250 (Value.int (Int.ofNat (10 ^ 5000)) 249), ent P "gcd" 258 (Value.ref 61), ent P "bounded" 266 (Value.ref 68), ent P "make" 275 (Value.ref 75), ent P "from_int" 282 (Value.ref 82), ent P "is_na" 289 (Value.ref 89), ent P "is_nan" 296 (Value.ref 96), ent P "is_finite" 303 (Value.ref 103), ent P "marked" 311 (Value.ref 110), ent P "neg" 318 (Value.ref 117), ent P "add" 326 (Value.ref 124), ent P "sub" 334 (Value.ref 131), ent P "mul" 342 (Value.ref 138), ent P "div" 350 (Value.ref 145), ent P "to_whole" 358 (Value.ref 152), ent P "nearest_whole" 368 (Value.ref 159), ent P "exponent" 378 (Value.ref 166), ent P "compare" 388 (Value.ref 173), ent P "whole_text" 400 (Value.ref 180), ent P "special_text" 407 (Value.ref 187), ent P "scaled" 417 (Value.ref 194), ent P "significant" 427 (Value.ref 201), ent P "scientific_text" 439 (Value.ref 208), ent P "fixed_text" 449 (Value.ref 215), ent P "MOST_LENGTH" 453 (Value.int 1000000 452), ent P "Vector" 495 (Value.ref 240), ent P "room" 502 (Value.ref 251), ent P "double" 509 (Value.ref 258), ent P "length" 517 (Value.ref 265), ent P "is_lacking" 527 (Value.ref 353), ent P "is_lacking_sorting" 528 (Value.ref 272), ent P "compare_items" 537 (Value.ref 279), ent P "check_sortable" 544 (Value.ref 286), ent P "compare_places" 560 (Value.ref 293), ent P "compare_keys" 573 (Value.ref 300), ent P "merge_runs" 587 (Value.ref 307), ent P "merge_sort" 593 (Value.ref 312), ent P "each_key" 599 (Value.ref 317), ent P "kept_places" 611 (Value.ref 324), ent P "order_by" 622 (Value.ref 332), ent P "without_zeros" 633 (Value.ref 339), ent P "general_text" 645 (Value.ref 346), ent P "is_lacking_cuts" 655 (Value.ref 353), ent P "range_of" 665 (Value.ref 360), ent P "equal_breaks" 671 (Value.ref 365), ent P "break_values" 677 (Value.ref 370), ent P "break_text" 686 (Value.ref 377), ent P "break_texts" 692 (Value.ref 382), ent P "repeats" 700 (Value.ref 389), ent P "cut_labels" 706 (Value.ref 394), ent P "_law_flakes" 718 (Value.ref 401), ent P "_law_written" 733 (Value.ref 408), ent P "_law_asked" 742 (Value.ref 415), ent P "law" 748 (Value.ref 420)] 68, #[]⟩),
  (30, ⟨.type "dict", none, .dict #[ent P "__module__" 203 (Value.str (Str.ofString "vectorcove.errors") 194), ent P "__firstlineno__" 207 (Value.int 5 206), ent P "__static_attributes__" 208 (Value.ref 29), ent P "__weakref__" 210 (Value.ref 32), ent P "__doc__" 211 (Value.none)] 3, #[]⟩),
  (31, { cls := Value.type "type", data := Data.cls { name := Str.ofString "CoveError", bases := [Value.type "Exception"], mro := [Value.ref 31, Value.type "Exception", Value.type "BaseException", Value.type "object"], ns := 30, qualname := Str.ofString "CoveError", subclasses := [Value.ref 51] }, slots := #[some (Value.ref 22), none, some (Value.str (Str.ofString "CoveError") 196), some (Value.str (Str.ofString "CoveError") 204), some (Value.builtin "Exception.__new__"), some (Value.bool true)] }),
  (47, cdObj "__init__" "Refusal.__init__" 228 9 2 42 43 (Value.ref 44) (Value.ref 45) (Value.ref 46) 233 234),
  (48, fnObj (inClass (stm 3) 0) "Refusal.__init__" 47 (Value.none) "vectorcove.errors" 194),
  (50, ⟨.type "dict", none, .dict #[ent P "__module__" 223 (Value.str (Str.ofString "vectorcove.errors") 194), ent P "__firstlineno__" 227 (Value.int 7 226), ent P "__init__" 235 (Value.ref 48), ent P "__static_attributes__" 237 (Value.ref 49), ent P "__doc__" 238 (Value.none)] 2, #[]⟩),
  (51, { cls := Value.type "type", data := Data.cls { name := Str.ofString "Refusal", bases := [Value.ref 31], mro := [Value.ref 51, Value.ref 31, Value.type "Exception", Value.type "BaseException", Value.type "object"], ns := 50, qualname := Str.ofString "Refusal" }, slots := #[some (Value.ref 35), none, some (Value.str (Str.ofString "Refusal") 216), some (Value.str (Str.ofString "Refusal") 224), some (Value.builtin "Exception.__new__"), some (Value.bool true)] }),
  (88, cdObj "is_na" "is_na" 283 37 1 83 84 (Value.ref 85) (Value.ref 86) (Value.ref 87) 287 288),
  (89, fnObj (stm 12) "is_na" 88 (Value.none) "vectorcove.rational" 241),
  (95, cdObj "is_nan" "is_nan" 290 39 1 90 91 (Value.ref 92) (Value.ref 93) (Value.ref 94) 294 295),
  (96, fnObj (stm 13) "is_nan" 95 (Value.none) "vectorcove.rational" 241),
  (102, cdObj "is_finite" "is_finite" 297 41 1 97 98 (Value.ref 99) (Value.ref 100) (Value.ref 101) 301 302),
  (103, fnObj (stm 14) "is_finite" 102 (Value.none) "vectorcove.rational" 241),
  (151, cdObj "to_whole" "to_whole" 351 75 1 146 147 (Value.ref 148) (Value.ref 149) (Value.ref 150) 356 357),
  (152, fnObj (stm 21) "to_whole" 151 (Value.none) "vectorcove.rational" 241),
  (158, cdObj "nearest_whole" "nearest_whole" 359 80 2 153 154 (Value.ref 155) (Value.ref 156) (Value.ref 157) 366 367),
  (159, fnObj (stm 22) "nearest_whole" 158 (Value.none) "vectorcove.rational" 241),
  (165, cdObj "exponent" "exponent" 369 86 1 160 161 (Value.ref 162) (Value.ref 163) (Value.ref 164) 376 377),
  (166, fnObj (stm 23) "exponent" 165 (Value.none) "vectorcove.rational" 241),
  (172, cdObj "compare" "compare" 379 97 2 167 168 (Value.ref 169) (Value.ref 170) (Value.ref 171) 386 387),
  (173, fnObj (stm 24) "compare" 172 (Value.none) "vectorcove.rational" 241),
  (179, cdObj "whole_text" "whole_text" 391 116 1 174 175 (Value.ref 176) (Value.ref 177) (Value.ref 178) 398 399),
  (180, fnObj (stm 26) "whole_text" 179 (Value.none) "vectorcove.numtext" 389),
  (186, cdObj "special_text" "special_text" 401 127 1 181 182 (Value.ref 183) (Value.ref 184) (Value.ref 185) 405 406),
  (187, fnObj (stm 27) "special_text" 186 (Value.none) "vectorcove.numtext" 389),
  (193, cdObj "scaled" "scaled" 408 135 3 188 189 (Value.ref 190) (Value.ref 191) (Value.ref 192) 415 416),
  (194, fnObj (stm 28) "scaled" 193 (Value.none) "vectorcove.numtext" 389),
  (200, cdObj "significant" "significant" 418 140 2 195 196 (Value.ref 197) (Value.ref 198) (Value.ref 199) 425 426),
  (201, fnObj (stm 29) "significant" 200 (Value.none) "vectorcove.numtext" 389),
  (207, cdObj "scientific_text" "scientific_text" 428 149 2 202 203 (Value.ref 204) (Value.ref 205) (Value.ref 206) 437 438),
  (208, fnObj (stm 30) "scientific_text" 207 (Value.none) "vectorcove.numtext" 389),
  (214, cdObj "fixed_text" "fixed_text" 440 156 2 209 210 (Value.ref 211) (Value.ref 212) (Value.ref 213) 447 448),
  (215, fnObj (stm 31) "fixed_text" 214 (Value.none) "vectorcove.numtext" 389),
  (223, { cls := Value.type "tuple", data := Data.seq #[Value.none] }),
  (229, cdObj "__init__" "Vector.__init__" 466 168 4 224 225 (Value.ref 226) (Value.ref 227) (Value.ref 228) 473 474),
  (230, fnObj (inClass (stm 34) 0) "Vector.__init__" 229 (Value.ref 223) "vectorcove.values" 450),
  (239, ⟨.type "dict", none, .dict #[ent P "__module__" 461 (Value.str (Str.ofString "vectorcove.values") 450), ent P "__firstlineno__" 465 (Value.int 166 464), ent P "__init__" 475 (Value.ref 230), ent P "copy" 482 (Value.ref 237), ent P "__static_attributes__" 488 (Value.ref 238), ent P "__dict__" 490 (Value.ref 241), ent P "__weakref__" 492 (Value.ref 242), ent P "__doc__" 493 (Value.none)] 4, #[]⟩),
  (240, { cls := Value.type "type", data := Data.cls { name := Str.ofString "Vector", bases := [Value.type "object"], mro := [Value.ref 240, Value.type "object"], ns := 239, qualname := Str.ofString "Vector" }, slots := #[none, none, some (Value.str (Str.ofString "Vector") 454), some (Value.str (Str.ofString "Vector") 462), some (Value.builtin "object.__new__"), some (Value.bool true)] }),
  (250, cdObj "room" "room" 496 177 1 245 246 (Value.ref 247) (Value.ref 248) (Value.ref 249) 500 501),
  (251, fnObj (stm 35) "room" 250 (Value.none) "vectorcove.values" 450),
  (257, cdObj "double" "double" 503 181 1 252 253 (Value.ref 254) (Value.ref 255) (Value.ref 256) 507 508),
  (258, fnObj (stm 36) "double" 257 (Value.none) "vectorcove.values" 450),
  (264, cdObj "length" "length" 510 183 1 259 260 (Value.ref 261) (Value.ref 262) (Value.ref 263) 515 516),
  (265, fnObj (stm 37) "length" 264 (Value.none) "vectorcove.values" 450),
  (271, cdObj "is_lacking" "is_lacking" 520 195 2 266 267 (Value.ref 268) (Value.ref 269) (Value.ref 270) 525 526),
  (272, fnObj (stm 39) "is_lacking" 271 (Value.none) "vectorcove.sorting" 518),
  (278, cdObj "compare_items" "compare_items" 529 198 3 273 274 (Value.ref 275) (Value.ref 276) (Value.ref 277) 535 536),
  (279, fnObj (stm 41) "compare_items" 278 (Value.none) "vectorcove.sorting" 518),
  (285, cdObj "check_sortable" "check_sortable" 538 206 1 280 281 (Value.ref 282) (Value.ref 283) (Value.ref 284) 542 543),
  (286, fnObj (stm 42) "check_sortable" 285 (Value.none) "vectorcove.sorting" 518),
  (292, cdObj "compare_places" "compare_places" 545 209 5 287 288 (Value.ref 289) (Value.ref 290) (Value.ref 291) 558 559),
  (293, fnObj (stm 43) "compare_places" 292 (Value.none) "vectorcove.sorting" 518),
  (299, cdObj "compare_keys" "compare_keys" 561 222 5 294 295 (Value.ref 296) (Value.ref 297) (Value.ref 298) 571 572),
  (300, fnObj (stm 44) "compare_keys" 299 (Value.none) "vectorcove.sorting" 518),
  (306, cdObj "merge_runs" "merge_runs" 574 228 5 301 302 (Value.ref 303) (Value.ref 304) (Value.ref 305) 585 586),
  (307, fnObj (stm 45) "merge_runs" 306 (Value.none) "vectorcove.sorting" 518),
  (311, cdObj "merge_sort" "merge_sort" 588 240 4 308 309 (Value.none) (Value.none) (Value.ref 310) 591 592),
  (312, fnObj (stm 46) "merge_sort" 311 (Value.none) "vectorcove.sorting" 518),
  (316, cdObj "each_key" "each_key" 594 252 2 313 314 (Value.none) (Value.none) (Value.ref 315) 597 598),
  (317, fnObj (stm 47) "each_key" 316 (Value.none) "vectorcove.sorting" 518),
  (323, cdObj "kept_places" "kept_places" 600 256 2 318 319 (Value.ref 320) (Value.ref 321) (Value.ref 322) 609 610),
  (324, fnObj (stm 48) "kept_places" 323 (Value.none) "vectorcove.sorting" 518),
  (325, { cls := Value.type "tuple", data := Data.seq #[Value.bool false, Value.bool true] }),
  (331, cdObj "order_by" "order_by" 612 267 3 326 327 (Value.ref 328) (Value.ref 329) (Value.ref 330) 620 621),
  (332, fnObj (stm 49) "order_by" 331 (Value.ref 325) "vectorcove.sorting" 518),
  (338, cdObj "without_zeros" "without_zeros" 625 277 1 333 334 (Value.ref 335) (Value.ref 336) (Value.ref 337) 631 632),
  (339, fnObj (stm 51) "without_zeros" 338 (Value.none) "vectorcove.sprintf" 623),
  (345, cdObj "general_text" "general_text" 634 286 3 340 341 (Value.ref 342) (Value.ref 343) (Value.ref 344) 643 644),
  (346, fnObj (stm 52) "general_text" 345 (Value.none) "vectorcove.sprintf" 623),
  (352, cdObj "is_lacking" "is_lacking" 648 295 1 347 348 (Value.ref 349) (Value.ref 350) (Value.ref 351) 652 653),
  (353, fnObj (stm 54) "is_lacking" 352 (Value.none) "vectorcove.cuts" 646),
  (359, cdObj "range_of" "range_of" 656 298 1 354 355 (Value.ref 356) (Value.ref 357) (Value.ref 358) 663 664),
  (360, fnObj (stm 56) "range_of" 359 (Value.none) "vectorcove.cuts" 646),
  (364, cdObj "equal_breaks" "equal_breaks" 666 317 2 361 362 (Value.none) (Value.none) (Value.ref 363) 669 670),
  (365, fnObj (stm 57) "equal_breaks" 364 (Value.none) "vectorcove.cuts" 646),
  (369, cdObj "break_values" "break_values" 672 340 2 366 367 (Value.none) (Value.none) (Value.ref 368) 675 676),
  (370, fnObj (stm 58) "break_values" 369 (Value.none) "vectorcove.cuts" 646),
  (376, cdObj "break_text" "break_text" 678 351 2 371 372 (Value.ref 373) (Value.ref 374) (Value.ref 375) 684 685),
  (377, fnObj (stm 59) "break_text" 376 (Value.none) "vectorcove.cuts" 646),
  (381, cdObj "break_texts" "break_texts" 687 356 2 378 379 (Value.none) (Value.none) (Value.ref 380) 690 691),
  (382, fnObj (stm 60) "break_texts" 381 (Value.none) "vectorcove.cuts" 646),
  (388, cdObj "repeats" "repeats" 693 363 1 383 384 (Value.ref 385) (Value.ref 386) (Value.ref 387) 698 699),
  (389, fnObj (stm 61) "repeats" 388 (Value.none) "vectorcove.cuts" 646),
  (393, cdObj "cut_labels" "cut_labels" 701 368 4 390 391 (Value.none) (Value.none) (Value.ref 392) 704 705),
  (394, fnObj (stm 62) "cut_labels" 393 (Value.none) "vectorcove.cuts" 646),
  (400, cdObj "_law_flakes" "_law_flakes" 709 383 1 395 396 (Value.ref 397) (Value.ref 398) (Value.ref 399) 716 717),
  (401, fnObj (stm 64) "_law_flakes" 400 (Value.none) "law_pq1407_01" 707),
  (407, cdObj "_law_written" "_law_written" 719 392 2 402 403 (Value.ref 404) (Value.ref 405) (Value.ref 406) 731 732),
  (408, fnObj (stm 65) "_law_written" 407 (Value.none) "law_pq1407_01" 707),
  (414, cdObj "_law_asked" "_law_asked" 734 410 2 409 410 (Value.ref 411) (Value.ref 412) (Value.ref 413) 740 741),
  (415, fnObj (stm 66) "_law_asked" 414 (Value.none) "law_pq1407_01" 707),
  (419, cdObj "law" "law" 743 415 1 416 417 (Value.none) (Value.none) (Value.ref 418) 746 747),
  (420, fnObj (stm 67) "law" 419 (Value.none) "law_pq1407_01" 707)]
noncomputable def K39s : List Addr := [3, 30, 31, 47, 48, 50, 51, 88, 89, 95, 96, 102, 103, 151, 152, 158, 159, 165, 166, 172, 173, 179, 180, 186, 187, 193, 194, 200, 201, 207, 208, 214, 215, 223, 229, 230, 239, 240, 250, 251, 257, 258, 264, 265, 271, 272, 278, 279, 285, 286, 292, 293, 299, 300, 306, 307, 311, 312, 316, 317, 323, 324, 325, 331, 332, 338, 339, 345, 346, 352, 353, 359, 360, 364, 365, 369, 370, 376, 377, 381, 382, 388, 389, 393, 394, 400, 401, 407, 408, 414, 415, 419, 420]
section
open PySem.Calls PyProof.V PySem.Spec
/-- what is owed to the head: the call that the claim asks about -/
noncomputable def LawFin : Prop := ∀ (prog : Program) (w : World) (s₁ : Shared) (mg mb : Str → Option Value) (a fa : Addr) (vs : List Value) (ns : List Int) (c : ClaimW) (cl : Str → Option Addr) (mean : ExcName → Option Value) (args : List WData),
    (K39 w.params).In s₁.heap → s₁.heap.Ns mainGlobals mg → s₁.heap.Ns builtinsNs mb → s₁.heap.NoLimit → (∀ x : Str, x ≠ "__name__" → mb x = bootBuiltins x) → mg (.ofString "law") = some (.ref fa) →
    s₁.heap.IsList a vs.toArray → IntsAre vs ns → ns.length ≤ 63 → s₁.gens = #[] → (∀ cls, c.raises args cls = false) → c.post args (.bool true) args = true →
    codeAny (model prog w) callerA (.call (.ref fa) ⟨[.ref a], []⟩) (GoodW c cl mean args s₁) s₁
/-- the text as the head sees it -/
noncomputable def viewP : Program := { PySem.Challenge.pw_pq1407_01 with main := { PySem.Challenge.pw_pq1407_01.main with body := [stm 67] } }
noncomputable def looseP : List Str := [.ofString "_wall", .ofString "CoveError", .ofString "Refusal", .ofString "NAN", .ofString "MOST_FIGURES", .ofString "MOST_PART", .ofString "gcd", .ofString "bounded", .ofString "make", .ofString "from_int", .ofString "is_na", .ofString "is_nan", .ofString "is_finite", .ofString "marked", .ofString "neg", .ofString "add", .ofString "sub", .ofString "mul", .ofString "div", .ofString "to_whole", .ofString "nearest_whole", .ofString "exponent", .ofString "compare", .ofString "whole_text", .ofString "special_text", .ofString "scaled", .ofString "significant", .ofString "scientific_text", .ofString "fixed_text", .ofString "MOST_LENGTH", .ofString "Vector", .ofString "room", .ofString "double", .ofString "length", .ofString "is_lacking", .ofString "is_lacking_sorting", .ofString "compare_items", .ofString "check_sortable", .ofString "compare_places", .ofString "compare_keys", .ofString "merge_runs", .ofString "merge_sort", .ofString "each_key", .ofString "kept_places", .ofString "order_by", .ofString "without_zeros", .ofString "general_text", .ofString "is_lacking_cuts", .ofString "range_of", .ofString "equal_breaks", .ofString "break_values", .ofString "break_text", .ofString "break_texts", .ofString "repeats", .ofString "cut_labels", .ofString "_law_flakes", .ofString "_law_written", .ofString "_law_asked"]
noncomputable def HK : Hook := kHook K39 K39s (fun _ => by kernel_rfl)
noncomputable def XtP (s : Shared) : Bool := xlAt viewP [] s && recOk (RowW.records PySem.Challenge.rw_pq1407_01.row.toRowW) s
noncomputable def dLaw : DefRec := match stm 67 with
  | .FunctionDef _ args body _ _ _ scope _ _ pos => ⟨.ofString "law", args, body, scope, pos⟩
  | _ => ⟨.ofString "law", ⟨[], [], none, [], [], none, []⟩, [], ⟨.function, [], false, false, []⟩, ⟨0, 0, 0, 0⟩⟩
set_option maxHeartbeats 8000000 in
theorem hl39 : LeftO PySem.Challenge.rw_pq1407_01.row.prog viewP looseP XtP HK.obs HK.val 4916 := by
  intro w
  kernel_rfl
theorem ws : PySem.Challenge.rw_pq1407_01.wellSaid = true := by kernel_rfl
set_option maxHeartbeats 8000000 in
theorem head_of (F : LawFin) : PySem.Challenge.rw_pq1407_01.Holds := by
  w_on
  refine holds_law ws fun said => ?_
  refine holds_open (q := viewP) (loose := looseP) (Xt := XtP) (XP := XL viewP []) (Yf := HK.obs) (Ya := HK.val) (YP := HK.says) (d := dLaw) (kwd := []) hl39 HK.of HK.keeps (fun s e => xl_of s (Bool.and_eq_true_iff.mp e).1) XL.keeps (by kernel_rfl) (by kernel_rfl) (by kernel_rfl) (fun s e => recFacts_of (Bool.and_eq_true_iff.mp e).2) (by rfl) (by assumption) (by decide +kernel) ⟨rfl, rfl, rfl, rfl, rfl, by decide +kernel⟩ ?hw ?hc
  case hw => w_witness2
  intro w s₀ s₁ mg mb G Y fa o pm cd doc dV kV ho hd hcd hD hmg hg args vals as hpre hlay hrd hwl hlo
  have KX := kIn_of Y
  refine Ground.open G ?_
  intro T B D TE TW
  wrow_args hpre hlay hrd hwl hlo
  all_goals (
    first | refine callC_kw (enter_call ?_) | refine enter_call ?_ | refine callC_kw (enter_callW ?_) | refine enter_callW ?_ | w_how
    w_top on
    try refine codeAny_mono ?_ (fun _ _ g => GoodW.toG g)
    exact F _ w s₁ mg _ _ _ _ _ _ _ _ _ KX (Top.g T) (Top.b T) (Top.nolimit T) (Top.builtins T) hmg (by assumption) (by assumption) (by lia) (by assumption) (fun _ => rfl) (by first | rfl | wrow_post))
end

theorem tf {P : Prop} (h : true = false) : P := Bool.noConfusion h
/-- pure values -/
inductive V where
  | none
  | bool (b : Bool)
  | int (i : Int)
  | str (s : Str)
  | tup (l : List V)
  | lst (l : List V)
  | vec (l : List V)

noncomputable abbrev Fz := Addr → Obj → Prop
noncomputable def NF (o : Obj) : Prop := ∀ vs, o.data ≠ .fields vs
noncomputable def Up (h : Heap) (a : Addr) (o : Obj) : Prop := ∃ sl, h.get? a = some { o with slots := sl }

theorem Up.of {h : Heap} {a : Addr} {o : Obj} (e : h.get? a = some o) : Up h a o := ⟨o.slots, e⟩
theorem Up.mono {h h' : Heap} {a : Addr} {o : Obj} (k : h.UpToSlots h') (n : NF o) (u : Up h a o) : Up h' a o := by
  obtain ⟨sl, e⟩ := u
  obtain ⟨sl', e'⟩ := k a _ e n
  exact ⟨sl', e'⟩
theorem Up.lt {h : Heap} {a : Addr} {o : Obj} (u : Up h a o) : a < h.objs.size := let ⟨_, e⟩ := u; Heap.lt_size e
theorem nf_seq {o : Obj} {vs n} (e : o.data = .seq vs n) : NF o := fun ws q => by rw [e] at q; cases q
theorem nf_dict {o : Obj} {vs n} (e : o.data = .dict vs n) : NF o := fun ws q => by rw [e] at q; cases q
theorem nf_cell {o : Obj} {v} (e : o.data = .cell v) : NF o := fun ws q => by rw [e] at q; cases q
theorem nf_plain {o : Obj} (e : o.data = .plain) : NF o := fun ws q => by rw [e] at q; cases q

theorem upSlots_push (h : Heap) (o : Obj) : h.UpToSlots (h.push o) := .of_keeps fun _ _ e => Heap.get?_push_of_some _ e
theorem islist_up {h h' : Heap} {a : Addr} {vs} (k : h.UpToSlots h') (x : h.IsList a vs) : h'.IsList a vs := by
  obtain ⟨o, ho, hc, n, hd⟩ := x
  obtain ⟨sl, e⟩ := k a o ho (nf_seq hd)
  exact ⟨_, e, hc, n, hd⟩
theorem iscell_up {h h' : Heap} {a : Addr} {v} (k : h.UpToSlots h') (x : h.IsCell a v) : h'.IsCell a v := by
  obtain ⟨o, ho, hd⟩ := x
  obtain ⟨sl, e⟩ := k a o ho (nf_cell hd)
  exact ⟨_, e, hd⟩
theorem funFrames_nf {base h h' : Heap} (k : ∀ b o, h.get? b = some o → NF o → ∃ o', h'.get? b = some o' ∧ NF o') : ∀ {l : List Env}, h.FunFrames base l → h'.FunFrames base l
  | [], _ => trivial
  | env :: rest, ⟨hk, ⟨L, o, hf, hn, ho, hd⟩, hr⟩ => by
    obtain ⟨o', ho', hd'⟩ := k L o ho hd
    exact ⟨hk, ⟨L, o', hf, hn, ho', hd'⟩, funFrames_nf k hr⟩
theorem funFrames_up {base h h' : Heap} (k : h.UpToSlots h') {l : List Env} (x : h.FunFrames base l) : h'.FunFrames base l :=
  funFrames_nf (fun b o e n => let ⟨sl, e'⟩ := k b o e n; ⟨_, e', n⟩) x

/-- the vector's class -/
noncomputable def vecC : Addr := 240

mutual
inductive VIn (P : Fz) : Value → V → Prop
  | none : VIn P .none .none
  | bool (b : Bool) : VIn P (.bool b) (.bool b)
  | int (i : Int) (t : Tok) : VIn P (.int i t) (.int i)
  | str (x : Str) (t : Tok) : VIn P (.str x t) (.str x)
  | tup {a : Addr} {o : Obj} {vs : Array Value} {n : Nat} {ds : List V} : P a o → o.cls = .type "tuple" → o.data = .seq vs n → VAll P vs.toList ds → VIn P (.ref a) (.tup ds)
  | lst {a : Addr} {o : Obj} {vs : Array Value} {n : Nat} {ds : List V} : P a o → o.cls = .type "list" → o.data = .seq vs n → VAll P vs.toList ds → VIn P (.ref a) (.lst ds)
  | vec {a dx l : Addr} {o od ol : Obj} {es : List DictEntry} {n k : Nat} {vs : Array Value} {t : Tok} {ds : List V} : P a o → o.cls = .ref vecC → o.dict = some dx → o.data = .plain → P dx od → od.data = .dict es.toArray n →
      getL "kind" es = some (some (.str "double" t)) → getL "items" es = some (some (.ref l)) → P l ol → ol.cls = .type "list" → ol.data = .seq vs k → VAll P vs.toList ds → VIn P (.ref a) (.vec ds)
inductive VAll (P : Fz) : List Value → List V → Prop
  | nil : VAll P [] []
  | cons {v : Value} {vs : List Value} {d : V} {ds : List V} : VIn P v d → VAll P vs ds → VAll P (v :: vs) (d :: ds)
end
section
variable {P P' : Fz} {v w : Value} {d e : V} {vs : List Value} {ds : List V}
noncomputable def VInv (P : Fz) (v : Value) : V → Prop
  | .none => v = .none
  | .bool b => v = .bool b
  | .int i => ∃ t, v = .int i t
  | .str x => ∃ t, v = .str x t
  | .tup ds => ∃ a o vs n, v = .ref a ∧ P a o ∧ o.cls = .type "tuple" ∧ o.data = .seq vs n ∧ VAll P vs.toList ds
  | .lst ds => ∃ a o vs n, v = .ref a ∧ P a o ∧ o.cls = .type "list" ∧ o.data = .seq vs n ∧ VAll P vs.toList ds
  | .vec ds => ∃ (a dx l : Addr) (o od ol : Obj) (es : List DictEntry) (n k : Nat) (vs : Array Value) (t : Tok), v = .ref a ∧ P a o ∧ o.cls = .ref vecC ∧ o.dict = some dx ∧ o.data = .plain ∧ P dx od ∧ od.data = .dict es.toArray n ∧
    getL "kind" es = some (some (.str "double" t)) ∧ getL "items" es = some (some (.ref l)) ∧ P l ol ∧ ol.cls = .type "list" ∧ ol.data = .seq vs k ∧ VAll P vs.toList ds
/-- what stands behind a pure value -/
theorem VIn.inv (h : VIn P v d) : VInv P v d := by
  cases h with
  | none => exact rfl
  | bool => exact rfl
  | int i t => exact ⟨t, rfl⟩
  | str x t => exact ⟨t, rfl⟩
  | tup h1 h2 h3 h4 => exact ⟨_, _, _, _, rfl, h1, h2, h3, h4⟩
  | lst h1 h2 h3 h4 => exact ⟨_, _, _, _, rfl, h1, h2, h3, h4⟩
  | vec h1 h2 h3 h4 h5 h6 h7 h8 h9 ha hb hc => exact ⟨_, _, _, _, _, _, _, _, _, _, _, rfl, h1, h2, h3, h4, h5, h6, h7, h8, h9, ha, hb, hc⟩
theorem VIn.int_inv {i : Int} (h : VIn P v (.int i)) : ∃ t, v = .int i t := h.inv
theorem VIn.str_inv {x : Str} (h : VIn P v (.str x)) : ∃ t, v = .str x t := h.inv
theorem VIn.bool_inv {b : Bool} (h : VIn P v (.bool b)) : v = .bool b := h.inv
theorem VIn.none_inv (h : VIn P v .none) : v = .none := h.inv
theorem VIn.int2 {i j : Int} (h : VIn P v (.int i)) (k : VIn P' w (.int j)) : ∃ t u, v = .int i t ∧ w = .int j u := ⟨_, _, h.int_inv.choose_spec, k.int_inv.choose_spec⟩
theorem VIn.str2 {x y : Str} (h : VIn P v (.str x)) (k : VIn P' w (.str y)) : ∃ t u, v = .str x t ∧ w = .str y u := ⟨_, _, h.str_inv.choose_spec, k.str_inv.choose_spec⟩
theorem VIn.tup_inv (h : VIn P v (.tup ds)) : ∃ a o vs n, v = .ref a ∧ P a o ∧ o.cls = .type "tuple" ∧ o.data = .seq vs n ∧ VAll P vs.toList ds := h.inv
theorem VIn.lst_inv (h : VIn P v (.lst ds)) : ∃ a o vs n, v = .ref a ∧ P a o ∧ o.cls = .type "list" ∧ o.data = .seq vs n ∧ VAll P vs.toList ds := h.inv
theorem VIn.vec_inv (h : VIn P v (.vec ds)) : VInv P v (.vec ds) := h.inv
noncomputable def VAllv (P : Fz) (vs : List Value) : List V → Prop
  | [] => vs = []
  | d :: ds => ∃ v ws, vs = v :: ws ∧ VIn P v d ∧ VAll P ws ds
theorem VAll.inv (h : VAll P vs ds) : VAllv P vs ds := by
  cases h with
  | nil => exact rfl
  | cons h k => exact ⟨_, _, rfl, h, k⟩
theorem VAll.nil_inv (h : VAll P vs []) : vs = [] := h.inv
theorem VAll.cons_inv (h : VAll P vs (d :: ds)) : ∃ v ws, vs = v :: ws ∧ VIn P v d ∧ VAll P ws ds := h.inv
theorem VAll.one_inv (h : VAll P vs [d]) : ∃ v, vs = [v] ∧ VIn P v d := by obtain ⟨v, _, rfl, k, r⟩ := h.cons_inv; obtain rfl := r.nil_inv; exact ⟨v, rfl, k⟩
theorem VAll.two_inv (h : VAll P vs [d, e]) : ∃ v w, vs = [v, w] ∧ VIn P v d ∧ VIn P w e := by obtain ⟨v, _, rfl, k, r⟩ := h.cons_inv; obtain ⟨w, rfl, q⟩ := r.one_inv; exact ⟨v, w, rfl, k, q⟩
theorem VAll.int_inv {i : Int} (h : VAll P vs [.int i]) : ∃ t, vs = [.int i t] := by obtain ⟨_, rfl, k⟩ := h.one_inv; obtain ⟨t, rfl⟩ := k.int_inv; exact ⟨t, rfl⟩
theorem VAll.str_inv {x : Str} (h : VAll P vs [.str x]) : ∃ t, vs = [.str x t] := by obtain ⟨_, rfl, k⟩ := h.one_inv; obtain ⟨t, rfl⟩ := k.str_inv; exact ⟨t, rfl⟩
theorem VAll.lst_inv (h : VAll P vs [.lst ds]) : ∃ a o ws n, vs = [.ref a] ∧ P a o ∧ o.cls = .type "list" ∧ o.data = .seq ws n ∧ VAll P ws.toList ds := by obtain ⟨_, rfl, k⟩ := h.one_inv; obtain ⟨a, o, ws, n, rfl, q⟩ := k.lst_inv; exact ⟨a, o, ws, n, rfl, q⟩
end

mutual
theorem VIn.mono {P P' : Fz} (hs : ∀ a o, P a o → P' a o) : ∀ {v : Value} {d : V}, VIn P v d → VIn P' v d
  | _, _, .none => .none
  | _, _, .bool b => .bool b
  | _, _, .int i t => .int i t
  | _, _, .str x t => .str x t
  | _, _, .tup h hc hd r => .tup (hs _ _ h) hc hd (VAll.mono hs r)
  | _, _, .lst h hc hd r => .lst (hs _ _ h) hc hd (VAll.mono hs r)
  | _, _, .vec h h1 h2 h3 h4 h5 h6 h7 h8 h9 h10 r => .vec (hs _ _ h) h1 h2 h3 (hs _ _ h4) h5 h6 h7 (hs _ _ h8) h9 h10 (VAll.mono hs r)
theorem VAll.mono {P P' : Fz} (hs : ∀ a o, P a o → P' a o) : ∀ {vs : List Value} {ds : List V}, VAll P vs ds → VAll P' vs ds
  | _, _, .nil => .nil
  | _, _, .cons h r => .cons (VIn.mono hs h) (VAll.mono hs r)
end
section
variable {P : Fz} {v : Value} {d : V} {vs ws : List Value} {ds es : List V}
theorem VAll.length (h : VAll P vs ds) : vs.length = ds.length := by
  induction vs generalizing ds with
  | nil => cases h; rfl
  | cons v vs ih => cases h with | cons _ r => rw [List.length_cons, List.length_cons, ih r]
theorem VAll.append (h : VAll P vs ds) (k : VAll P ws es) : VAll P (vs ++ ws) (ds ++ es) := by
  induction vs generalizing ds with
  | nil => cases h; exact k
  | cons v vs ih => cases h with | cons h r => exact .cons h (ih r)
theorem VAll.get (h : VAll P vs ds) {k : Nat} {d : V} (hk : ds[k]? = some d) : ∃ v, vs[k]? = some v ∧ VIn P v d := by
  induction vs generalizing ds k with
  | nil => cases h; simp at hk
  | cons v vs ih =>
    cases h with
    | cons h r =>
      cases k with
      | zero => simp at hk; subst hk; exact ⟨v, rfl, h⟩
      | succ k => exact ih r (by simpa using hk)
theorem VAll.get' (h : VAll P vs ds) {k : Nat} {v : Value} (hk : vs[k]? = some v) : ∃ d, ds[k]? = some d ∧ VIn P v d := by
  induction vs generalizing ds k with
  | nil => simp at hk
  | cons w vs ih =>
    cases h with
    | cons h r =>
      cases k with
      | zero => simp at hk; subst hk; exact ⟨_, rfl, h⟩
      | succ k => obtain ⟨d, h1, h2⟩ := ih r (by simpa using hk); exact ⟨d, by simpa using h1, h2⟩
theorem VAll.set (h : VAll P vs ds) (k : Nat) (hd : VIn P v d) : VAll P (vs.set k v) (ds.set k d) := by
  induction vs generalizing ds k with
  | nil => cases h; exact .nil
  | cons w vs ih =>
    cases h with
    | cons h r =>
      cases k with
      | zero => exact .cons hd r
      | succ k => exact .cons h (ih r k)
theorem VAll.reverse (h : VAll P vs ds) : VAll P vs.reverse ds.reverse := by
  induction vs generalizing ds with
  | nil => cases h; exact .nil
  | cons v vs ih =>
    cases h with
    | cons h r =>
      rw [List.reverse_cons, List.reverse_cons]
      exact (ih r).append (.cons h .nil)
theorem VAll.drop (h : VAll P vs ds) (k : Nat) : VAll P (vs.drop k) (ds.drop k) := by
  induction k generalizing vs ds with
  | zero => exact h
  | succ k ih =>
    cases h with
    | nil => exact .nil
    | cons h r => exact ih r
theorem VAll.take (h : VAll P vs ds) (k : Nat) : VAll P (vs.take k) (ds.take k) := by
  induction k generalizing vs ds with
  | zero => exact .nil
  | succ k ih =>
    cases h with
    | nil => exact .nil
    | cons h r => exact .cons h (ih r)
end

/-- iterators, ranges, slices are kept as they are -/
noncomputable def FK (h h' : Heap) : Prop := ∀ a o vs, h.get? a = some o → o.data = .fields vs → h'.get? a = some o
theorem FK.refl (h : Heap) : FK h h := fun _ _ _ e _ => e
theorem FK.trans {h h' h'' : Heap} (x : FK h h') (y : FK h' h'') : FK h h'' := fun a o vs e q => y a o vs (x a o vs e q) q
theorem FK.of_keeps {h h' : Heap} (k : ∀ b o, h.get? b = some o → h'.get? b = some o) : FK h h' := fun a o _ e _ => k a o e
theorem FK.push (h : Heap) (o : Obj) : FK h (h.push o) := .of_keeps fun _ _ e => Heap.get?_push_of_some _ e
theorem FK.same {h h' : Heap} {a : Addr} (hs : Heap.SameBut a h h') (n : ∀ o, h.get? a = some o → NF o) : FK h h' := fun b o vs e q => by
  by_cases w : b = a
  · subst w; exact absurd q (n o e vs)
  · exact (hs.2 b w).trans e

/-- pure state of a frame: the bound names, and at most one list that is being built -/
structure S where
  vars : List (Str × V)
  own : Option (Str × List V)

noncomputable def setV (x : Str) (d : V) (l : List (Str × V)) : List (Str × V) := (x, d) :: l
theorem setV_lookup (x : Str) (d : V) (l : List (Str × V)) (y : Str) : (setV x d l).lookup y = if y = x then some d else l.lookup y := by
  unfold setV
  rw [List.lookup_cons]
  by_cases h : y = x
  · rw [if_pos h, h, beq_self_eq_true]
  · rw [if_neg h, beq_eq_false_iff_ne.mpr h]
noncomputable def delV (x : Str) (l : List (Str × V)) : List (Str × V) := l.filter fun p => !(p.1 == x)
theorem delV_lookup (x : Str) : ∀ (l : List (Str × V)) (y : Str), (delV x l).lookup y = if y = x then none else l.lookup y
  | [], y => by simp [delV]
  | (z, e) :: r, y => by
    have ih := delV_lookup x r y
    unfold delV at ih ⊢
    by_cases hz : z = x
    · subst hz
      simp only [List.filter_cons, beq_self_eq_true, Bool.not_true, Bool.false_eq_true, if_false, ih, List.lookup_cons]
      by_cases h : y = z
      · subst h; simp
      · simp [h, beq_eq_false_iff_ne.mpr h]
    · simp only [List.filter_cons, beq_eq_false_iff_ne.mpr hz, Bool.not_false, if_true, List.lookup_cons, ih]
      by_cases h : y = z
      · subst h; simp [hz]
      · simp [beq_eq_false_iff_ne.mpr h]

/-- no object of ours stands there -/
noncomputable def Free (h : Heap) (a : Addr) : Prop := ∀ o, h.get? a = some o → ¬ NF o
theorem Free.of_none {h : Heap} {a : Addr} (e : h.get? a = none) : Free h a := fun o q => by rw [e] at q; cases q
theorem Free.size (h : Heap) : Free h h.objs.size := .of_none (Heap.get?_none_of_le (Nat.le_refl _))
theorem Free.back {h h' : Heap} {a : Addr} (k : h.UpToSlots h') (f : Free h' a) : Free h a := fun o e n => by
  obtain ⟨sl, e'⟩ := k a o e n
  exact f _ e' n
theorem Free.ne {h : Heap} {a b : Addr} {o : Obj} (f : Free h a) (e : h.get? b = some o) (n : NF o) : a ≠ b := fun q => f o (q ▸ e) n
noncomputable def Grows (P P' : Fz) : Prop := ∀ a o, P a o → P' a o
theorem Grows.refl (P : Fz) : Grows P P := fun _ _ h => h
theorem Grows.trans {P P' P'' : Fz} (a : Grows P P') (b : Grows P' P'') : Grows P P'' := fun x o h => b x o (a x o h)

/-- how a call comes back -/
inductive Res where
  | ret (v : V)
  | exc (msg : Str)
/-- what a def promises: of these arguments, for whatever is asked of its end -/
noncomputable abbrev Spec := List V → (Res → Prop) → Prop

/-- the exception's class -/
noncomputable def refC : Addr := 51
/-- the exception's own dict tells the message -/
noncomputable def MsgD (h : Heap) (dx : Addr) (msg : Str) : Prop :=
  ∃ od es n t, Up h dx od ∧ od.data = .dict es n ∧ getL "message" es.toList = some (some (.str msg t))
/-- the exception's object: not yet noted (none), or noted, in flight -/
noncomputable def ET (base h : Heap) (e dx : Addr) (fl : Option Value) : Prop :=
  ∃ vs sl, h.get? e = some ⟨.ref refC, some dx, .fields vs, sl⟩ ∧ 1 < vs.size ∧
    match fl with
    | none => vs[1]? = some .none
    | some f => ∃ T oT ts, vs[1]? = some (.ref T) ∧ base.get? T = none ∧ T ≠ e ∧ h.get? T = some oT ∧ oT.data = .fields ts ∧ ts[3]? = some f
noncomputable def OffFr (fr : List Env) (dx : Addr) : Prop := ∀ en ∈ fr, en.frame ≠ some dx
noncomputable def Flown (base : Heap) (fr : List Env) (e : Addr) (msg : Str) (h : Heap) : Prop :=
  base.StaysIn h ∧ h.FunFrames base fr ∧ base.get? e = none ∧ ∃ dx, OffFr fr dx ∧ MsgD h dx msg ∧ ET base h e dx (some .none)

noncomputable def FnOk (kp : Bool) (prog : Program) (w : World) (base : Heap) (n : Nat) (f : Addr) (sp : Spec) : Prop :=
  ∀ (A : Around) (fr : List Env) (s : Shared) (P : Fz) (vals : List Value) (ds : List V) (R : Res → Prop) (Φ E : Value → Shared → Prop),
    A.handled = none → A.frames = some fr → A.depth + n < recursionLimit → A.units + 64 * n + 200 < cLine →
    base.StaysIn s.heap → s.heap.FunFrames base fr → (∀ a o, P a o → Up s.heap a o ∧ NF o) → VAll P vals ds → sp ds R →
    (∀ v d h' tk' P', base.StaysIn h' → s.heap.UpToSlots h' → (kp = true → FK s.heap h') → Grows P P' → (∀ a o, P' a o → P a o ∨ (Free s.heap a ∧ NF o ∧ Up h' a o)) → VIn P' v d → R (.ret d) → Φ v { s with heap := h', toks := tk' }) →
    (∀ e msg h' tk', base.StaysIn h' → s.heap.UpToSlots h' → Flown base fr e msg h' → R (.exc msg) → E (.ref e) { s with heap := h', toks := tk' }) →
    codeAny (model prog w) A (.call (.ref f) ⟨vals, []⟩) (fun r s' => match r with | .ok (.ret v) => Φ v s' | .ok _ => False | .error e => E e s') s
theorem FnOk.up {prog : Program} {w : World} {base : Heap} {kp : Bool} {n n' : Nat} {f : Addr} {sp : Spec} (h : FnOk kp prog w base n f sp) (le : n ≤ n') : FnOk kp prog w base n' f sp :=
  fun A fr s P vals ds R Φ E h1 h2 h3 h4 => h A fr s P vals ds R Φ E h1 h2 (by lia) (by lia)
/-- a promise may be said weaker -/
theorem FnOk.weaken {prog : Program} {w : World} {base : Heap} {kp : Bool} {n : Nat} {f : Addr} {sp sp' : Spec} (h : FnOk kp prog w base n f sp) (le : ∀ ds R, sp' ds R → sp ds R) : FnOk kp prog w base n f sp' :=
  fun A fr s P vals ds R Φ E h1 h2 h3 h4 h5 h6 h7 h8 h9 => h A fr s P vals ds R Φ E h1 h2 h3 h4 h5 h6 h7 h8 (le _ _ h9)

noncomputable def strKeysB (es : Array DictEntry) : Bool := es.toList.all fun e => match e.key with | .str .. => true | _ => false
noncomputable abbrev refObj : Obj := { cls := .type "type", data := .cls { name := .ofString "Refusal", bases := [.ref 31], mro := [.ref 51, .ref 31, .type "Exception", .type "BaseException", .type "object"], ns := 50, qualname := .ofString "Refusal" }, slots := #[some (.ref 35), none, some (.str (.ofString "Refusal") 216), some (.str (.ofString "Refusal") 224), some (.builtin "Exception.__new__"), some (.bool true)] }
/-- what the exception's __init__ does -/
noncomputable def RefInit (K : Frag) : Prop := ∀ (prog : Program) (w : World) (A : Around) (E : Value → Shared → Prop) (s : Shared) (e : Addr) (vs : Array Value) (sl : Array (Option Value)) (v : Value) (Q : Value → Shared → Prop),
  K.In s.heap → s.heap.NoLimit → A.depth < recursionLimit → s.heap.get? e = some ⟨.ref refC, none, .fields vs, sl⟩ →
  (∀ h' tk' dx, s.heap.get? dx = none → (∀ b o, b ≠ e → s.heap.get? b = some o → h'.get? b = some o) → h'.get? e = some ⟨.ref refC, some dx, .fields vs, sl⟩ → h'.Ns1 dx (fun y => if y = "message" then some v else none) → Q .none { s with heap := h', toks := tk' }) →
  wpAny (model prog w) A (call (.ref 48) [.ref e, v]) Q E s
/-- what is known of the exception's class -/
structure RefK0 (K : Frag) : Prop where
  cls : K.lookup refC = some refObj
  up : ∃ c0 dd cd sl, K.lookup 31 = some ⟨c0, dd, .cls cd, sl⟩ ∧ ∃ es n c d sl', K.lookup cd.ns = some ⟨c, d, .dict es n, sl'⟩ ∧ strKeysB es = true ∧ nsFind es "__init__" = none
  init : findIn K (.ref refC) "__init__" = some (some (.ref 48))
  fn : typeIn K (.ref 48) = some (.type "function")
  sa : findIn K (.ref refC) "__setattr__" = some (some (.builtin "object.__setattr__"))
  no : findIn K (.ref refC) "message" = some none
  ga : findIn K (.ref refC) "__getattribute__" = some (some (.builtin "BaseException.__getattribute__"))
  gt : findIn K (.ref refC) "__getattr__" = some none
  dict : hasDictIn K refC = true
  keep : keepIn K (.ref refC) = true
  glob : nsIn K mainGlobals "Refusal" = some (some (.ref refC))
structure RefK (K : Frag) : Prop extends RefK0 K where
  ini : RefInit K
/-- Vector(kind, items) -/
noncomputable def VecNew (K : Frag) : Prop := ∀ (prog : Program) (w : World) (A : Around) (E : Value → Shared → Prop) (s : Shared) (kv iv : Value) (Q : Value → Shared → Prop),
  K.In s.heap → s.heap.NoLimit → A.depth + 1 < recursionLimit →
  (∀ h' tk' x dx sl m, (∀ b o, s.heap.get? b = some o → h'.get? b = some o) → s.heap.get? x = none → s.heap.get? dx = none → h'.get? x = some ⟨.ref vecC, some dx, .plain, sl⟩ → h'.Ns1 dx m → m "kind" = some kv → m "items" = some iv → Q (.ref x) { s with heap := h', toks := tk' }) →
  wpAny (model prog w) A (call (.ref vecC) [kv, iv]) Q E s
structure VecK (K : Frag) : Prop where
  isv : isIn K (.ref vecC) vecC = true
  get : plainGet K vecC "kind" = true ∧ hasDictIn K vecC = true
  kind : ∃ a, findIn K (.ref vecC) "kind" = some a ∧ noGet K a = true
  items : ∃ a, findIn K (.ref vecC) "items" = some a ∧ noGet K a = true
  keep : keepIn K (.ref vecC) = true
  glob : nsIn K mainGlobals "Vector" = some (some (.ref vecC))
  new : VecNew K

/-- what stands fast while a frame runs -/
structure Ctx where
  prog : Program
  w : World
  K : Frag
  base : Heap
  mg : Str → Option Value
  mb : Str → Option Value
  A : Around
  env : Env
  fr : List Env
  hc : Heap
  P₀ : Fz
  lvl : Nat
  fn : Str → Option (Bool × Spec)
  hi : Option Heap

structure Ctx.Ok (c : Ctx) : Prop where
  hand : c.A.handled = none
  depth : c.A.depth + c.lvl < recursionLimit
  units : c.A.units + 64 * c.lvl + 200 < cLine
  frames : c.A.frames = some c.fr
  kind : c.env.scope.kind = .function
  glob : c.env.globals = mainGlobals
  blt : c.env.builtins = builtinsNs
  KIn : c.K.In c.base
  g : c.base.Ns mainGlobals c.mg
  b : c.base.Ns builtinsNs c.mb
  nolimit : c.base.NoLimit
  bu : ∀ x : Str, x ≠ "__name__" → c.mb x = bootBuiltins x
  Lf : Free c.hc c.env.locals
  Lb : c.base.get? c.env.locals = none
  vecK : VecK c.K
  refK : RefK c.K
  fnOk : ∀ x kp sp, c.fn x = some (kp, sp) → ∃ f o fd, nsIn c.K mainGlobals x = some (some (.ref f)) ∧ c.K.lookup f = some o ∧ o.data = .func fd ∧ FnOk kp c.prog c.w c.base c.lvl f sp
  celd : ∀ x y a, c.env.cells.lookup x = some a → c.env.cells.lookup y = some a → x = y

/-- where a name's value lies -/
noncomputable def At (c : Ctx) (h : Heap) (m : Str → Option Value) (x : Str) (v : Value) : Prop :=
  (c.env.kindOf x = some .local ∧ m x = some v) ∨ ((c.env.kindOf x = some .cell ∨ c.env.kindOf x = some .free) ∧ ∃ a, c.env.cells.lookup x = some a ∧ h.IsCell a (some v))

noncomputable def OwnAt (h : Heap) (a : Addr) (vs : Array Value) : Prop := ∃ n sl, h.get? a = some ⟨.type "list", none, .seq vs n, sl⟩
theorem OwnAt.isList {h : Heap} {a : Addr} {vs : Array Value} (x : OwnAt h a vs) : h.IsList a vs := let ⟨n, sl, e⟩ := x; ⟨_, e, rfl, n, rfl⟩
theorem OwnAt.up {h h' : Heap} {a : Addr} {vs : Array Value} (k : h.UpToSlots h') (x : OwnAt h a vs) : OwnAt h' a vs := by
  obtain ⟨n, sl, e⟩ := x
  obtain ⟨sl', e'⟩ := k a _ e (nf_seq rfl)
  exact ⟨n, sl', e'⟩

structure Inv (c : Ctx) (h : Heap) (m : Str → Option Value) (P : Fz) (oa : Addr) (σ : S) : Prop where
  stay : c.base.StaysIn h
  upc : c.hc.UpToSlots h
  itk : ∀ hi, c.hi = some hi → FK hi h
  ff : h.FunFrames c.base c.fr
  ns : h.Ns c.env.locals m
  frz : ∀ a o, P a o → Up h a o ∧ NF o ∧ a ≠ c.env.locals
  src : ∀ a o, P a o → c.P₀ a o ∨ Free c.hc a
  old : ∀ a o, c.P₀ a o → P a o
  cel : ∀ x a, c.env.cells.lookup x = some a → a ≠ c.env.locals ∧ (∀ o, ¬ P a o) ∧ ∃ v₀, h.IsCell a v₀
  vars : ∀ x d, σ.vars.lookup x = some d → ∃ v, At c h m x v ∧ VIn P v d
  own : ∀ x ds, σ.own = some (x, ds) → oa ≠ c.env.locals ∧ c.base.get? oa = none ∧ Free c.hc oa ∧ (∀ o, ¬ P oa o) ∧ (∀ y a, c.env.cells.lookup y = some a → a ≠ oa) ∧ At c h m x (.ref oa) ∧ ∃ vs, OwnAt h oa vs ∧ VAll P vs.toList ds

theorem At.up {c : Ctx} {h h' : Heap} {m : Str → Option Value} {x : Str} {v : Value} (up : h.UpToSlots h') (q : At c h m x v) : At c h' m x v := by
  rcases q with q | ⟨q, a, q1, q2⟩
  · exact .inl q
  · exact .inr ⟨q, a, q1, iscell_up up q2⟩

/-- a heap that has more, and the old up to slots -/
theorem Inv.more {c : Ctx} {h h' : Heap} {m : Str → Option Value} {P P' : Fz} {oa : Addr} {σ : S} (I : Inv c h m P oa σ) (st : c.base.StaysIn h') (up : h.UpToSlots h') (fk : c.hi ≠ none → FK h h') (gr : Grows P P')
    (nw : ∀ a o, P' a o → P a o ∨ (Free h a ∧ NF o ∧ Up h' a o)) : Inv c h' m P' oa σ := by
  refine ⟨st, I.upc.trans up, fun hi e => (I.itk hi e).trans (fk (by rw [e]; simp)), funFrames_up up I.ff, up.ns I.ns, fun a o q => ?_, fun a o q => ?_, fun a o q => gr _ _ (I.old a o q), fun x a q => ?_, fun x d q => ?_, fun x ds q => ?_⟩
  · rcases nw a o q with q | ⟨q1, q2, q3⟩
    · obtain ⟨u, n, l⟩ := I.frz a o q; exact ⟨u.mono up n, n, l⟩
    · obtain ⟨oL, _, _, hL, hd, _⟩ := I.ns
      exact ⟨q3, q2, q1.ne hL (nf_dict hd)⟩
  · rcases nw a o q with q | ⟨q1, _, _⟩
    · exact I.src a o q
    · exact .inr (q1.back I.upc)
  · obtain ⟨e1, e2, v₀, e3⟩ := I.cel x a q
    refine ⟨e1, fun o z => ?_, v₀, iscell_up up e3⟩
    rcases nw a o z with z | ⟨z, _, _⟩
    · exact e2 o z
    · obtain ⟨_, ho, hd⟩ := e3; exact z _ ho (nf_cell hd)
  · obtain ⟨v, a, b⟩ := I.vars x d q
    exact ⟨v, a.up up, b.mono gr⟩
  · obtain ⟨e1, e2, e3, e4, e5, e6, vs, e7, e8⟩ := I.own x ds q
    refine ⟨e1, e2, e3, fun o z => ?_, e5, e6.up up, vs, e7.up up, e8.mono gr⟩
    rcases nw oa o z with z | ⟨z, _, _⟩
    · exact e4 o z
    · obtain ⟨n, sl, ho⟩ := e7; exact z _ ho (nf_seq rfl)

theorem stays_push {b h : Heap} (st : b.StaysIn h) (o : Obj) : b.StaysIn (h.push o) := fun a x e => Heap.get?_push_of_some _ (st a x e)

/-- one new object, frozen at once -/
theorem Inv.push {c : Ctx} {h : Heap} {m : Str → Option Value} {P : Fz} {oa : Addr} {σ : S} (I : Inv c h m P oa σ) (o : Obj) (n : NF o) (hf : o.isFreed = false) :
    Inv c (h.push o) m (fun a x => P a x ∨ (a = h.objs.size ∧ x = o)) oa σ :=
  I.more (stays_push I.stay o) (upSlots_push h o) (fun _ => FK.push h o) (fun _ _ q => .inl q) fun a x q => by
    rcases q with q | ⟨rfl, rfl⟩
    · exact .inl q
    · exact .inr ⟨Free.size h, n, Up.of (Heap.get?_push_size h hf)⟩
/-- any new object, not looked at any more -/
theorem Inv.pushAny {c : Ctx} {h : Heap} {m : Str → Option Value} {P : Fz} {oa : Addr} {σ : S} (I : Inv c h m P oa σ) (o : Obj) : Inv c (h.push o) m P oa σ :=
  I.more (stays_push I.stay o) (upSlots_push h o) (fun _ => FK.push h o) (Grows.refl P) fun _ _ q => .inl q
/-- old objects all kept -/
theorem Inv.keeps {c : Ctx} {h h' : Heap} {m : Str → Option Value} {P : Fz} {oa : Addr} {σ : S} (I : Inv c h m P oa σ) (k : ∀ b o, h.get? b = some o → h'.get? b = some o) : Inv c h' m P oa σ :=
  I.more (fun a x e => k _ _ (I.stay a x e)) (.of_keeps k) (fun _ => .of_keeps k) (Grows.refl P) fun _ _ q => .inl q
/-- the own list is given away -/
theorem Inv.freeze {c : Ctx} {h : Heap} {m : Str → Option Value} {P : Fz} {oa : Addr} {vars : List (Str × V)} {x : Str} {ds : List V} (I : Inv c h m P oa ⟨vars, some (x, ds)⟩) :
    ∃ P', Grows P P' ∧ Inv c h m P' oa ⟨setV x (.lst ds) vars, none⟩ ∧ ∃ v, At c h m x v ∧ VIn P' v (.lst ds) := by
  obtain ⟨e1, e2, e3, e4, e5, e6, vs, e7, e8⟩ := I.own x ds rfl
  obtain ⟨o, ho, hc, n, hd⟩ := e7.isList
  have gr : Grows P fun a y => P a y ∨ (a = oa ∧ y = o) := fun _ _ q => .inl q
  have hv : VIn (fun a y => P a y ∨ (a = oa ∧ y = o)) (.ref oa) (.lst ds) := .lst (.inr ⟨rfl, rfl⟩) hc hd (e8.mono gr)
  refine ⟨_, gr, ⟨I.stay, I.upc, I.itk, I.ff, I.ns, fun a y q => ?_, fun a y q => ?_, fun a y q => .inl (I.old a y q), fun y a q => ?_, fun y d q => ?_, fun _ _ q => nomatch q⟩, .ref oa, e6, hv⟩
  · rcases q with q | ⟨rfl, rfl⟩
    · exact I.frz a y q
    · exact ⟨Up.of ho, nf_seq hd, e1⟩
  · rcases q with q | ⟨rfl, rfl⟩
    · exact I.src a y q
    · exact .inr e3
  · obtain ⟨f1, f2, f3⟩ := I.cel y a q
    refine ⟨f1, fun o z => ?_, f3⟩
    rcases z with z | ⟨rfl, rfl⟩
    · exact f2 _ z
    · exact e5 _ _ q rfl
  · rw [setV_lookup] at q
    by_cases hy : y = x
    · rw [if_pos hy] at q; cases q; subst hy; exact ⟨_, e6, hv⟩
    · rw [if_neg hy] at q
      obtain ⟨v, f1, f2⟩ := I.vars y d q
      exact ⟨v, f1, f2.mono gr⟩
/-- the same frame, but the iterators of a heap are to be kept -/
noncomputable def Ctx.hold (c : Ctx) (h : Heap) : Ctx := { c with hi := some h }
theorem Ctx.Ok.hold {c : Ctx} (O : c.Ok) (h : Heap) : (c.hold h).Ok := ⟨O.1, O.2, O.3, O.4, O.5, O.6, O.7, O.8, O.9, O.10, O.11, O.12, O.13, O.14, O.15, O.16, O.17, O.18⟩
theorem Inv.hold {c : Ctx} {h : Heap} {m : Str → Option Value} {P : Fz} {oa : Addr} {σ : S} (I : Inv c h m P oa σ) : Inv (c.hold h) h m P oa σ :=
  ⟨I.1, I.2, fun hi e => by cases e; exact FK.refl h, I.4, I.5, I.6, I.7, I.8, I.9, I.10, I.11⟩
theorem Inv.unhold {c : Ctx} {h h₀ : Heap} {m m₀ : Str → Option Value} {P P₀ : Fz} {oa oa₀ : Addr} {σ σ₀ : S} (I₀ : Inv c h₀ m₀ P₀ oa₀ σ₀) (I : Inv (c.hold h₀) h m P oa σ) : Inv c h m P oa σ :=
  ⟨I.1, I.2, fun hi e => (I₀.itk hi e).trans (I.itk h₀ rfl), I.4, I.5, I.6, I.7, I.8, I.9, I.10, I.11⟩

noncomputable abbrev VPost := V → S → Prop
/-- an exception of ours, on its way out of the frame -/
noncomputable def Raised (c : Ctx) (h' : Heap) (e : Addr) (msg : Str) : Prop :=
  c.base.StaysIn h' ∧ c.hc.UpToSlots h' ∧ h'.FunFrames c.base c.fr ∧ c.base.get? e = none ∧ (∃ m, h'.Ns c.env.locals m) ∧ ∃ dx, OffFr c.fr dx ∧ MsgD h' dx msg ∧ (ET c.base h' e dx (some .none) ∨ ET c.base h' e dx none)

noncomputable def Post (c : Ctx) (s : Shared) (P : Fz) (oa : Addr) (Q : VPost) (Φ : Value → Shared → Prop) : Prop :=
  ∀ v d σ' h' tk' m' P', Inv c h' m' P' oa σ' → Grows P P' → VIn P' v d → Q d σ' → Φ v { s with heap := h', toks := tk' }
noncomputable def PostL (c : Ctx) (s : Shared) (P : Fz) (oa : Addr) (Q : List V → S → Prop) (Φ : List Value → Shared → Prop) : Prop :=
  ∀ v d σ' h' tk' m' P', Inv c h' m' P' oa σ' → Grows P P' → VAll P' v d → Q d σ' → Φ v { s with heap := h', toks := tk' }
noncomputable def PostB (c : Ctx) (s : Shared) (P : Fz) (oa : Addr) (Q : Bool → S → Prop) (Φ : Bool → Shared → Prop) : Prop :=
  ∀ b σ' h' tk' m' P', Inv c h' m' P' oa σ' → Grows P P' → Q b σ' → Φ b { s with heap := h', toks := tk' }
noncomputable def ExP (c : Ctx) (X : Str → Prop) (s : Shared) (E : Value → Shared → Prop) : Prop :=
  ∀ e msg h' tk', Raised c h' e msg → X msg → E (.ref e) { s with heap := h', toks := tk' }

/-- what an expression gives, in the pure state -/
noncomputable def EV (c : Ctx) (X : Str → Prop) (e : Expr) (σ : S) (Q : VPost) : Prop :=
  ∀ (s : Shared) m P oa Φ E, Inv c s.heap m P oa σ → Post c s P oa Q Φ → ExP c X s E → wpAny (model c.prog c.w) c.A (eval e c.env) Φ E s
noncomputable def EL (c : Ctx) (X : Str → Prop) (pos : Pos) (es : List Expr) (σ : S) (Q : List V → S → Prop) : Prop :=
  ∀ (s : Shared) m P oa Φ E, Inv c s.heap m P oa σ → PostL c s P oa Q Φ → ExP c X s E → wpAny (model c.prog c.w) c.A (spliced (backTo pos (starEach es c.env))) Φ E s
noncomputable def EB (c : Ctx) (X : Str → Prop) (e : Expr) (σ : S) (Q : Bool → S → Prop) : Prop :=
  ∀ (s : Shared) m P oa Φ E, Inv c s.heap m P oa σ → PostB c s P oa Q Φ → ExP c X s E → wpAny (model c.prog c.w) c.A (isTrue e c.env (eval e c.env)) Φ E s

section
variable {c : Ctx} {X : Str → Prop} {σ : S} {Q : VPost} {pos : Pos} {k : Nat}

theorem ev_none : Q .none σ → EV c X (.Constant .none k pos) σ Q := fun q _ m P oa Φ E I p _ => Constant_none (p .none .none σ _ _ m P I (Grows.refl P) .none q)
theorem ev_bool {b : Bool} : Q (.bool b) σ → EV c X (.Constant (.bool b) k pos) σ Q := fun q _ m P oa Φ E I p _ => Constant_bool (p _ _ σ _ _ m P I (Grows.refl P) (.bool b) q)
theorem ev_int {i : Int} : Q (.int i) σ → EV c X (.Constant (.int i) k pos) σ Q := fun q _ m P oa Φ E I p _ => wpAny_Constant_int (p _ _ σ _ _ m P I (Grows.refl P) (.int i _) q)
theorem ev_str {x : Str} : Q (.str x) σ → EV c X (.Constant (.str x) k pos) σ Q := fun q _ m P oa Φ E I p _ => Calls.Constant_str (p _ _ σ _ _ m P I (Grows.refl P) (.str x _) q)

noncomputable def okName (x : Str) : Bool := !(x == ("__debug__" : Str)) && !(x == ("__classdict__" : Str))
theorem okName.deb {x : Str} (h : okName x = true) : (x == ("__debug__" : Str)) = false := by
  unfold okName at h; cases q : (x == ("__debug__" : Str)) with
  | false => rfl
  | true => rw [q] at h; simp at h
theorem okName.cd {x : Str} (h : okName x = true) : (x == ("__classdict__" : Str)) = false := by
  unfold okName at h; cases q : (x == ("__classdict__" : Str)) with
  | false => rfl
  | true => rw [q] at h; simp at h

theorem load_at (O : c.Ok) {h : Heap} {m : Str → Option Value} {x : Str} {v : Value} {s : Shared} {Φ : Value → Shared → Prop} {E} (hn : s.heap.Ns c.env.locals m) (a : At c s.heap m x v) (ok : okName x = true) (q : Φ v s) :
    wpAny (model c.prog c.w) c.A (loadName c.env x) Φ E s := by
  rcases a with ⟨a1, a2⟩ | ⟨a1 | a1, ca, a2, a3⟩
  · exact wpAny_loadName_local O.kind a1 hn a2 q
  · exact wpAny_loadName_cell O.kind a1 a2 a3 q
  · exact wpAny_loadName_free O.kind a1 a2 a3 q (okName.cd ok)
theorem ev_name (O : c.Ok) {x : Str} {d : V} (ok : okName x = true) (hx : σ.vars.lookup x = some d) (q : Q d σ) : EV c X (.Name x pos) σ Q := fun s m P oa Φ E I p _ => by
  obtain ⟨v, a, r⟩ := I.vars x d hx
  exact wpAny_Name (load_at O (h := s.heap) I.ns a ok (p v d σ _ _ m P I (Grows.refl P) r q)) (okName.deb ok)
theorem ev_own (O : c.Ok) {x : Str} {vars : List (Str × V)} {ds : List V} (ok : okName x = true) (q : Q (.lst ds) ⟨setV x (.lst ds) vars, none⟩) : EV c X (.Name x pos) ⟨vars, some (x, ds)⟩ Q := fun s m P oa Φ E I p _ => by
  obtain ⟨P', gr, I', v, a, r⟩ := I.freeze
  exact wpAny_Name (load_at O (h := s.heap) I.ns a ok (p v _ _ _ _ m P' I' gr r q)) (okName.deb ok)
/-- a global name that holds an int -/
theorem ev_gint (O : c.Ok) {x : Str} {i : Int} {t : Tok} (ok : okName x = true) (hk : c.env.kindOf x = some .globalImplicit) (hx : nsIn c.K mainGlobals x = some (some (.int i t))) (q : Q (.int i) σ) : EV c X (.Name x pos) σ Q := fun s m P oa Φ E I p _ =>
  Calls.Name_function_global O.kind hk (Calls.loadGlobal_global (by rw [O.glob]; exact O.g.keeps I.stay) (mg_of O.KIn O.g hx) (p _ _ σ _ _ m P I (Grows.refl P) (.int i t) q)) (okName.deb ok)

theorem el_nil {Q : List V → S → Prop} (q : Q [] σ) : EL c X pos [] σ Q := fun s m P oa Φ E I p _ => spliced_none (p [] [] σ _ _ m P I (Grows.refl P) .nil q)
noncomputable def isStar : Expr → Bool
  | .Starred .. => true
  | _ => false
theorem starEach_more {e : Expr} {rest : List Expr} {env : Env} (h : isStar e = false) : starEach (e :: rest) env = (false, eval e env) :: starEach rest env := by
  cases e <;> first | rfl | exact tf h
theorem el_cons {e : Expr} {es : List Expr} {Q : List V → S → Prop} (hs : isStar e = false) (h : EV c X e σ fun d σ₁ => EL c X pos es σ₁ fun ds σ₂ => Q (d :: ds) σ₂) : EL c X pos (e :: es) σ Q := fun s m P oa Φ E I p x =>
  spliced_more (h s m P oa _ E I (fun v d σ₁ h₁ tk₁ m₁ P₁ I₁ g₁ r₁ q₁ => q₁ _ m₁ P₁ oa _ E I₁ (fun vs ds σ₂ h₂ tk₂ m₂ P₂ I₂ g₂ r₂ q₂ => p (v :: vs) (d :: ds) σ₂ h₂ tk₂ m₂ P₂ I₂ (g₁.trans g₂) (.cons (r₁.mono g₂) r₂) q₂) x) x) (starEach_more hs)

/-- operators -/
inductive binR : Operator → V → V → (V → Prop) → Prop
  | add {x y : Int} {Q : V → Prop} (q : Q (.int (x + y))) : binR .Add (.int x) (.int y) Q
  | sub {x y : Int} {Q : V → Prop} (q : Q (.int (x - y))) : binR .Sub (.int x) (.int y) Q
  | mul {x y : Int} {Q : V → Prop} (h : x.natAbs < 2 ^ 64 ∨ y.natAbs < 2 ^ 64) (q : Q (.int (x * y))) : binR .Mult (.int x) (.int y) Q
  | div {x y : Int} {Q : V → Prop} (h : y ≠ 0 ∧ y.natAbs < 2 ^ 64) (q : Q (.int (x.fdiv y))) : binR .FloorDiv (.int x) (.int y) Q
  | mod {x y : Int} {Q : V → Prop} (h : y ≠ 0) (q : Q (.int (x.fmod y))) : binR .Mod (.int x) (.int y) Q
  | pow {x y : Int} {Q : V → Prop} (h : 0 ≤ y ∧ y ≤ 1000000 ∧ x.natAbs < 2 ^ 64) (q : Q (.int (x ^ y.toNat))) : binR .Pow (.int x) (.int y) Q
  | one {l : List V} {n : Int} {Q : V → Prop} (h : n = 1 ∧ l.length = 1) (q : Q (.lst l)) : binR .Mult (.lst l) (.int n) Q
  | rep {x : Str} {n : Int} {Q : V → Prop} (h : 0 ≤ n ∧ n ≤ 1000 ∧ x.length ≤ 1000) (q : Q (.str (Txt.mul x n))) : binR .Mult (.str x) (.int n) Q
  | cat {x y : Str} {Q : V → Prop} (h : x.length + y.length ≤ 1000000) (q : Q (.str (x ++ y))) : binR .Add (.str x) (.str y) Q
  | lst {x y : List V} {Q : V → Prop} (h : x.length + y.length ≤ 1000000) (q : Q (.lst (x ++ y))) : binR .Add (.lst x) (.lst y) Q

/-- what an operation owes, at the level of values -/
noncomputable abbrev Owes (c : Ctx) (s : Shared) (m : Str → Option Value) (P : Fz) (oa : Addr) (σ : S) (Q : V → Prop) (Φ : Value → Shared → Prop) : Prop :=
  ∀ v d h' tk' P', Inv c h' m P' oa σ → Grows P P' → VIn P' v d → Q d → Φ v { s with heap := h', toks := tk' }

theorem noPylong {a b : Int} (h0 : b ≠ 0) (h : b.natAbs < 2 ^ 64) : Builtin.divisionGoesByPylong a b = false := by
  refine PyProof.noPylong_of_log2 ?_
  have := (Nat.log2_lt (n := b.natAbs) (k := 64) (by lia)).mpr h
  lia
theorem mulOk {x : Str} {n : Int} (h : 0 ≤ n ∧ n ≤ 1000 ∧ x.length ≤ 1000) : MulOk x n := by
  obtain ⟨h0, h1, h2⟩ := h
  refine ⟨?_, fun a b => ?_, fun a b => ?_⟩
  · have a1 : decide (n < -(2 ^ 63 : Int)) = false := decide_eq_false (by lia)
    have a2 : decide (n ≥ 2 ^ 63) = false := decide_eq_false (by lia)
    rw [a1, a2]; rfl
  · have : (2 ^ 63 - 1) / 1000 ≤ (2 ^ 63 - 1) / n := Int.le_ediv_of_mul_le (by lia) (by
      have : (2 ^ 63 - 1 : Int) / 1000 * n ≤ (2 ^ 63 - 1) / 1000 * 1000 := Int.mul_le_mul_of_nonneg_left (by lia) (by decide)
      have : (2 ^ 63 - 1 : Int) / 1000 * 1000 ≤ 2 ^ 63 - 1 := by decide
      lia)
    have : (1000 : Int) ≤ (2 ^ 63 - 1) / 1000 := by decide
    lia
  · have : x.length * n.toNat ≤ 1000 * 1000 := Nat.mul_le_mul h2 (by lia)
    unfold Builtin.Str.tooLong
    simp only [decide_eq_false_iff_not]
    rw [sizeLine_eq]
    lia
theorem bin_sound {op : Operator} {a b : V} {v w : Value} {s : Shared} {m : Str → Option Value} {P : Fz} {oa : Addr} {R : V → Prop} {Φ E} (I : Inv c s.heap m P oa σ) (r₁ : VIn P v a) (r₂ : VIn P w b) (q : binR op a b R) (p : Owes c s m P oa σ R Φ) :
    wpAny (model c.prog c.w) c.A (binaryOp op v w) Φ E s := by
  have st : ∀ i tk', R (.int i) → ∀ t, Φ (.int i t) { s with toks := tk' } := fun i tk' q t => p _ _ s.heap tk' P I (Grows.refl _) (.int i t) q
  have n64 : ∀ {z : Int}, z.natAbs < 2 ^ 64 → -(2 ^ 64) < z ∧ z < 2 ^ 64 := fun {z} hz => by lia
  cases q with
  | add q => obtain ⟨_, _, rfl, rfl⟩ := r₁.int2 r₂; exact add_int (st _ _ q _)
  | sub q => obtain ⟨_, _, rfl, rfl⟩ := r₁.int2 r₂; exact sub_int (st _ _ q _)
  | mul h q =>
    obtain ⟨_, _, rfl, rfl⟩ := r₁.int2 r₂
    refine mul_int (st _ _ q _) ?_
    rcases h with z | z
    · exact IntMulOk.of_left (intBits_le_64 (n64 z).1 (n64 z).2)
    · exact IntMulOk.of_right (intBits_le_64 (n64 z).1 (n64 z).2)
  | div h q => obtain ⟨_, _, rfl, rfl⟩ := r₁.int2 r₂; exact floordiv_int h.1 (st _ _ q _) (.inl (noPylong h.1 h.2))
  | mod h q => obtain ⟨_, _, rfl, rfl⟩ := r₁.int2 r₂; exact mod_int h (st _ _ q _)
  | pow h q => obtain ⟨_, _, rfl, rfl⟩ := r₁.int2 r₂; exact pow_int_small h.1 h.2.1 h.2.2 (st _ _ q _)
  | @one l n _ h q =>
    obtain ⟨u, rfl⟩ := r₂.int_inv
    obtain ⟨a, o, vs, k, rfl, pa, ca, da, ra⟩ := r₁.lst_inv
    obtain ⟨sl, ua⟩ := (I.frz _ _ pa).1
    obtain ⟨c0, d0, dt0, s0⟩ := o
    simp only at ca da
    subst ca da
    have l1 := ra.length
    rw [Array.length_toList, h.2] at l1
    obtain ⟨rfl, -⟩ := h
    have ne : vs.isEmpty = false := by rw [Array.isEmpty_eq_false_iff]; intro e; rw [e] at l1; simp at l1
    refine wpAny_binaryOp_repeat_ref (T := "list") (U := "int") (by decide) ⟨_, ua, rfl⟩ (fun s' => typeIs_int s' 1 u) noFill_list_mul F.fills_int_mul F.slot_int_rmul repeat_list F.slot_int_index.lookup
      (call_meets F.slot_int_rmul (typeIs_int s 1 u) F.entry_int_rmul (F.args_int_rmul_2 _ _) (lm_int_rmul_list_any 1 u a vs k d0 sl)
        ⟨ua, rfl, ⟨_, ua, rfl⟩, call_meets F.slot_list_mul ⟨_, ua, rfl⟩ F.entry_list_mul (F.args_list_mul_2 _ _)
          (lm_list_mul_any a vs k d0 sl 1 u (by decide) (by rw [l1]; decide) (by rw [l1]; decide))
          ⟨ua, ?_⟩⟩)
    have e : List.foldl (fun x1 x2 => x1 ++ x2) #[] (List.replicate (if vs.isEmpty = true then 0 else (1 : Int).toNat) vs) = vs := by rw [ne]; simp
    rw [e]
    exact p _ _ _ _ _ (I.push { cls := .type "list", data := .seq vs } (nf_seq rfl) rfl) (fun _ _ q => .inl q) (.lst (.inr ⟨rfl, rfl⟩) rfl rfl (ra.mono fun _ _ q => .inl q)) q
  | rep h q => obtain ⟨_, rfl⟩ := r₁.str_inv; obtain ⟨_, rfl⟩ := r₂.int_inv; exact SB.mul (mulOk h) fun t' tk => p _ _ s.heap tk P I (Grows.refl _) (.str _ t') q
  | cat h q => obtain ⟨_, _, rfl, rfl⟩ := r₁.str2 r₂; exact add_str (fun t' tk => p _ _ s.heap tk P I (Grows.refl _) (.str _ t') q) (Nat.le_trans h (by decide))
  | lst h q =>
    obtain ⟨a, o, vs, n, rfl, pa, ca, da, ra⟩ := r₁.lst_inv
    obtain ⟨b, o', vs', n', rfl, pb, cb, db, rb⟩ := r₂.lst_inv
    obtain ⟨sl, ua⟩ := (I.frz _ _ pa).1
    obtain ⟨sl', ub⟩ := (I.frz _ _ pb).1
    obtain ⟨c0, d0, dt0, s0⟩ := o
    obtain ⟨c1, d1, dt1, s1⟩ := o'
    simp only at ca da cb db
    subst ca da cb db
    have l1 := ra.length
    have l2 := rb.length
    rw [Array.length_toList] at l1 l2
    refine concat_meets ⟨_, ua, rfl⟩ ⟨_, ub, rfl⟩ noFill_list_add seq_list_add PySem.F.slot_list_add PySem.F.entry_list_add (PySem.F.args_list_add_2 _ _) (list_addW a b vs vs' n n' _ _ _ _ (by rw [l1, l2]; exact Nat.le_trans h (by decide))) ⟨ua, ub, ?_⟩
    refine p _ _ _ _ _ (I.push { cls := .type "list", data := .seq (vs ++ vs') } (nf_seq rfl) rfl) (fun _ _ q => .inl q) (.lst (.inr ⟨rfl, rfl⟩) rfl rfl ?_) q
    rw [Array.toList_append]
    exact (ra.append rb).mono fun _ _ q => .inl q

theorem ev_two {l r : Expr} {R : V → V → (V → Prop) → Prop} {T : Value → Value → Sem Value} {e : Expr}
    (he : ∀ {s Φ E}, wpAny (model c.prog c.w) c.A (eval l c.env) (fun a s₁ => wpAny (model c.prog c.w) c.A (eval r c.env) (fun b s₂ => wpAny (model c.prog c.w) c.A (T a b) Φ E s₂) E s₁) E s → wpAny (model c.prog c.w) c.A (eval e c.env) Φ E s)
    (snd : ∀ {a b v w s m P oa σ R' Φ E}, Inv c s.heap m P oa σ → VIn P v a → VIn P w b → R a b R' → Owes c s m P oa σ R' Φ → wpAny (model c.prog c.w) c.A (T v w) Φ E s)
    (h : EV c X l σ fun a σ₁ => EV c X r σ₁ fun b σ₂ => R a b fun v => Q v σ₂) : EV c X e σ Q := fun s m P oa Φ E I p x =>
  he (h s m P oa _ E I (fun v d σ₁ h₁ tk₁ m₁ P₁ I₁ g₁ r₁ q₁ => q₁ _ m₁ P₁ oa _ E I₁ (fun w e σ₂ h₂ tk₂ m₂ P₂ I₂ g₂ r₂ q₂ =>
    snd I₂ (r₁.mono g₂) r₂ q₂ fun v d h' tk' P' I' g r q => p v d σ₂ h' tk' m₂ P' I' ((g₁.trans g₂).trans g) r q) x) x)
theorem ev_bin {l r : Expr} {op : Operator} (h : EV c X l σ fun a σ₁ => EV c X r σ₁ fun b σ₂ => binR op a b fun v => Q v σ₂) : EV c X (.BinOp l op r pos) σ Q :=
  ev_two (fun h => wpAny_BinOp h) (fun I r₁ r₂ q p => bin_sound I r₁ r₂ q p) h
theorem ev_neg {e : Expr} (h : EV c X e σ fun d σ₁ => ∃ i, d = .int i ∧ Q (.int (-i)) σ₁) : EV c X (.UnaryOp .USub e pos) σ Q := fun s m P oa Φ E I p x =>
  UnaryOp_ (h s m P oa _ E I (fun v d σ₁ h₁ tk₁ m₁ P₁ I₁ g₁ r₁ q₁ => by
    obtain ⟨i, rfl, q⟩ := q₁
    obtain ⟨_, rfl⟩ := r₁.int_inv
    exact neg_int (p _ _ σ₁ _ _ m₁ P₁ I₁ g₁ (.int _ _) q)) x)
theorem ev_if {t b o : Expr} (h : EB c X t σ fun k σ₁ => if k = true then EV c X b σ₁ Q else EV c X o σ₁ Q) : EV c X (.IfExp t b o pos) σ Q := fun s m P oa Φ E I p x =>
  IfExp_ (h s m P oa _ E I (fun k σ₁ h₁ tk₁ m₁ P₁ I₁ g₁ q₁ => by
    cases k with
    | true => exact q₁ _ m₁ P₁ oa Φ E I₁ (fun v d σ' h' tk' m' P' I' g r q => p v d σ' h' tk' m' P' I' (g₁.trans g) r q) x
    | false => exact q₁ _ m₁ P₁ oa Φ E I₁ (fun v d σ' h' tk' m' P' I' g r q => p v d σ' h' tk' m' P' I' (g₁.trans g) r q) x) x)
theorem ev_list {es : List Expr} (h : EL c X pos es σ fun ds σ₁ => ds.length ≤ 1000000 ∧ Q (.lst ds) σ₁) : EV c X (.List es pos) σ Q := fun s m P oa Φ E I p x =>
  List_ (h s m P oa _ E I (fun vs ds σ₁ h₁ tk₁ m₁ P₁ I₁ g₁ r₁ q₁ => wpAny_newObj_type
    (p _ _ σ₁ _ _ m₁ _ (I₁.push { cls := .type "list", data := .seq vs.toArray } (nf_seq rfl) rfl) (fun _ _ q => .inl (g₁ _ _ q)) (.lst (.inr ⟨rfl, rfl⟩) rfl rfl (r₁.mono fun _ _ q => .inl q)) q₁.2)
    (by show vs.toArray.size ≤ sizeLine; rw [List.size_toArray, r₁.length]; exact Nat.le_trans q₁.1 (by decide))) x)
theorem ev_tup {es : List Expr} (h : EL c X pos es σ fun ds σ₁ => ds.length ≤ 1000000 ∧ Q (.tup ds) σ₁) : EV c X (.Tuple es k pos) σ Q := fun s m P oa Φ E I p x =>
  Tuple_ (h s m P oa _ E I (fun vs ds σ₁ h₁ tk₁ m₁ P₁ I₁ g₁ r₁ q₁ => wpAny_newObj_type
    (p _ _ σ₁ _ _ m₁ _ (I₁.push { cls := .type "tuple", data := .seq vs.toArray } (nf_seq rfl) rfl) (fun _ _ q => .inl (g₁ _ _ q)) (.tup (.inr ⟨rfl, rfl⟩) rfl rfl (r₁.mono fun _ _ q => .inl q)) q₁.2)
    (by show vs.toArray.size ≤ sizeLine; rw [List.size_toArray, r₁.length]; exact Nat.le_trans q₁.1 (by decide))) x)

-- plain data (no vector among it)
mutual
noncomputable def toPy : V → PyData
  | .none => .none
  | .bool b => .bool b
  | .int i => .int i
  | .str x => .str x
  | .tup l => .tuple (toPys l)
  | .lst l => .list (toPys l)
  | .vec _ => .none
noncomputable def toPys : List V → List PyData
  | [] => []
  | d :: ds => toPy d :: toPys ds
end
mutual
noncomputable def plain : V → Bool
  | .vec _ => false
  | .tup l => plains l
  | .lst l => plains l
  | .str x => PyData.strOk x
  | _ => true
noncomputable def plains : List V → Bool
  | [] => true
  | d :: ds => plain d && plains ds
end
mutual
noncomputable def deep : V → Nat
  | .tup l => deeps l + 1
  | .lst l => deeps l + 1
  | _ => 0
noncomputable def deeps : List V → Nat
  | [] => 0
  | d :: ds => max (deep d) (deeps ds)
end
mutual
theorem canLay_toPy : ∀ d, plain d = true → (toPy d).canLay0 = true ∧ (toPy d).depth = deep d
  | .none, _ => by simp [toPy, PyData.canLay0, PyData.depth, deep]
  | .bool b, _ => by simp [toPy, PyData.canLay0, PyData.depth, deep]
  | .int i, _ => by simp [toPy, PyData.canLay0, PyData.depth, deep]
  | .str x, h => by simp [toPy, PyData.canLay0, PyData.depth, deep]; simpa [plain] using h
  | .tup l, h => by
    have := canLay_toPys l (by simpa [plain] using h)
    simp [toPy, PyData.canLay0, PyData.depth, deep, this.1, this.2]
  | .lst l, h => by
    have := canLay_toPys l (by simpa [plain] using h)
    simp [toPy, PyData.canLay0, PyData.depth, deep, this.1, this.2]
  | .vec l, h => by simp [plain] at h
theorem canLay_toPys : ∀ l, plains l = true → PyData.canLayAll0 (toPys l) = true ∧ PyData.depthAll (toPys l) = deeps l
  | [], _ => by simp [toPys, PyData.canLayAll0, PyData.depthAll, deeps]
  | d :: ds, h => by
    simp only [plains, Bool.and_eq_true] at h
    have h1 := canLay_toPy d h.1
    have h2 := canLay_toPys ds h.2
    simp [toPys, PyData.canLayAll0, PyData.depthAll, deeps, h1.1, h1.2, h2.1, h2.2]
end
mutual
theorem reads_of {h : Heap} {P : Fz} (u : ∀ a o, P a o → Up h a o) : ∀ {v : Value} {d : V}, VIn P v d → plain d = true → ∃ as, Reads h v (toPy d) as
  | _, _, .none, _ => ⟨_, by rw [toPy]; exact Reads.none⟩
  | _, _, .bool b, _ => ⟨_, by rw [toPy]; exact Reads.bool b⟩
  | _, _, .int i t, _ => ⟨_, by rw [toPy]; exact Reads.int i t⟩
  | _, _, .str x t, _ => ⟨_, by rw [toPy]; exact Reads.str x t⟩
  | _, _, .tup p hc hd r, q => by
    obtain ⟨as, z⟩ := reads_ofs u r (by simpa [plain] using q)
    obtain ⟨sl, e⟩ := u _ _ p
    exact ⟨as, by rw [toPy]; exact Reads.tuple e hc hd z⟩
  | _, _, .lst p hc hd r, q => by
    obtain ⟨as, z⟩ := reads_ofs u r (by simpa [plain] using q)
    obtain ⟨sl, e⟩ := u _ _ p
    exact ⟨_, by rw [toPy]; exact Reads.list e hc hd z⟩
  | _, _, .vec .., q => by simp [plain] at q
theorem reads_ofs {h : Heap} {P : Fz} (u : ∀ a o, P a o → Up h a o) : ∀ {vs : List Value} {ds : List V}, VAll P vs ds → plains ds = true → ∃ as, ReadsAll h vs (toPys ds) as
  | _, _, .nil, _ => ⟨_, by rw [toPys]; exact ReadsAll.nil⟩
  | _, _, .cons r rs, q => by
    simp only [plains, Bool.and_eq_true] at q
    obtain ⟨as, z⟩ := reads_of u r q.1
    obtain ⟨bs, z'⟩ := reads_ofs u rs q.2
    exact ⟨_, by rw [toPys]; exact ReadsAll.cons z z'⟩
end
noncomputable def flat (d : V) : Prop := plain d = true ∧ deep d ≤ 8
theorem flat.shaped {d : V} (h : flat d) : SeqAt.shaped (toPy d) = true := by
  have := canLay_toPy d h.1
  have h2 := h.2
  simp only [SeqAt.shaped, this.1, this.2, Bool.true_and, decide_eq_true_eq]
  lia

/-- comparisons -/
noncomputable def isN : V → Bool | .none => true | _ => false
inductive cmpR : CmpOp → V → V → (V → Prop) → Prop
  | eq {x y : Int} {Q : V → Prop} (q : Q (.bool (x == y))) : cmpR .Eq (.int x) (.int y) Q
  | ne {x y : Int} {Q : V → Prop} (q : Q (.bool (x != y))) : cmpR .NotEq (.int x) (.int y) Q
  | lt {x y : Int} {Q : V → Prop} (q : Q (.bool (decide (x < y)))) : cmpR .Lt (.int x) (.int y) Q
  | gt {x y : Int} {Q : V → Prop} (q : Q (.bool (decide (y < x)))) : cmpR .Gt (.int x) (.int y) Q
  | le {x y : Int} {Q : V → Prop} (q : Q (.bool (decide (x ≤ y)))) : cmpR .LtE (.int x) (.int y) Q
  | ge {x y : Int} {Q : V → Prop} (q : Q (.bool (decide (y ≤ x)))) : cmpR .GtE (.int x) (.int y) Q
  | seq {x y : Str} {Q : V → Prop} (q : Q (.bool (x == y))) : cmpR .Eq (.str x) (.str y) Q
  | sne {x y : Str} {Q : V → Prop} (q : Q (.bool (x != y))) : cmpR .NotEq (.str x) (.str y) Q
  | is {a : V} {Q : V → Prop} (q : Q (.bool (isN a))) : cmpR .Is a .none Q
  | isnot {a : V} {Q : V → Prop} (q : Q (.bool (!isN a))) : cmpR .IsNot a .none Q
  | inT {x y : Str} {Q : V → Prop} (q : Q (.bool !(Builtin.Str.occurrences x y 0 x.length 1).isEmpty)) : cmpR .In (.str y) (.str x) Q
  | inL {a : V} {l : List V} {Q : V → Prop} (h : flat a ∧ flat (.lst l)) (q : Q (.bool ((toPys l).any fun y => PyData.eqv y (toPy a)))) : cmpR .In a (.lst l) Q
  | notinL {a : V} {l : List V} {Q : V → Prop} (h : flat a ∧ flat (.lst l)) (q : Q (.bool (!(toPys l).any fun y => PyData.eqv y (toPy a)))) : cmpR .NotIn a (.lst l) Q
  | notinT {a : V} {l : List V} {Q : V → Prop} (h : flat a ∧ flat (.tup l)) (q : Q (.bool (!(toPys l).any fun y => PyData.eqv y (toPy a)))) : cmpR .NotIn a (.tup l) Q
  | eqD {a b : V} {Q : V → Prop} (h : flat a ∧ flat b) (q : Q (.bool (PyData.eqv (toPy a) (toPy b)))) : cmpR .Eq a b Q
  | neD {a b : V} {Q : V → Prop} (h : flat a ∧ flat b) (q : Q (.bool (!PyData.eqv (toPy a) (toPy b)))) : cmpR .NotEq a b Q

theorem lays {a : V} (h : flat a) : (toPy a).canLay0 = true ∧ (toPy a).depth ≤ 8 := let z := canLay_toPy a h.1; ⟨z.1, z.2 ▸ h.2⟩
theorem room_of {n k d : Nat} (h : d ≤ 8) (un : n + 64 < cLine) : n + 1 + min k d < cLine := by
  have := Nat.min_le_right k d; lia
theorem cmp_sound (O : c.Ok) {op : CmpOp} {a b : V} {v w : Value} {s : Shared} {m : Str → Option Value} {P : Fz} {oa : Addr} {R : V → Prop} {Φ E} (I : Inv c s.heap m P oa σ) (r₁ : VIn P v a) (r₂ : VIn P w b) (q : cmpR op a b R) (p : Owes c s m P oa σ R Φ) :
    wpAny (model c.prog c.w) c.A (compareOp op v w) Φ E s := by
  have st : ∀ b, R (.bool b) → Φ (.bool b) s := fun b q => p _ _ s.heap s.toks P I (Grows.refl _) (.bool b) q
  have u : ∀ a o, P a o → Up s.heap a o := fun a o z => (I.frz a o z).1
  have un : c.A.units + 64 < cLine := by have := O.units; lia
  have isn : ∀ {v : Value} {a : V}, VIn P v a → (v == Value.none) = isN a := fun {v a} r => by cases r <;> rfl
  cases q with
  | eq q => obtain ⟨_, _, rfl, rfl⟩ := r₁.int2 r₂; exact eq_int (st _ q)
  | ne q => obtain ⟨_, _, rfl, rfl⟩ := r₁.int2 r₂; exact ne_int (st _ q)
  | lt q => obtain ⟨_, _, rfl, rfl⟩ := r₁.int2 r₂; exact lt_int (st _ q)
  | gt q => obtain ⟨_, _, rfl, rfl⟩ := r₁.int2 r₂; exact gt_int (st _ q)
  | le q => obtain ⟨_, _, rfl, rfl⟩ := r₁.int2 r₂; exact le_int (st _ q)
  | ge q => obtain ⟨_, _, rfl, rfl⟩ := r₁.int2 r₂; exact ge_int (st _ q)
  | seq q => obtain ⟨_, _, rfl, rfl⟩ := r₁.str2 r₂; exact eq_str (st _ q)
  | sne q => obtain ⟨_, _, rfl, rfl⟩ := r₁.str2 r₂; exact ne_str (st _ q)
  | is q => obtain rfl := r₂.none_inv; exact is_none_gen (st _ (by rw [isn r₁]; exact q))
  | isnot q => obtain rfl := r₂.none_inv; exact isnot_none_gen (st _ (by show R (.bool (!(v == Value.none))); rw [isn r₁]; exact q))
  | inT q => obtain ⟨_, _, rfl, rfl⟩ := r₁.str2 r₂; exact in_str (st _ q)
  | inL h q =>
    have z : plains _ = true := h.2.1
    obtain ⟨as, ra⟩ := reads_of u r₁ h.1.1
    obtain ⟨bs, rb⟩ := reads_of u r₂ h.2.1
    rw [toPy] at rb
    exact SeqAt.in_list_reads rb ra (canLay_toPys _ z).1 (lays h.1).1 (room_of (lays h.1).2 un) (st _ q)
  | notinL h q =>
    have z : plains _ = true := h.2.1
    obtain ⟨as, ra⟩ := reads_of u r₁ h.1.1
    obtain ⟨bs, rb⟩ := reads_of u r₂ h.2.1
    rw [toPy] at rb
    exact SeqAt.notIn_list_reads rb ra (canLay_toPys _ z).1 (lays h.1).1 (room_of (lays h.1).2 un) (st _ q)
  | notinT h q =>
    have z : plains _ = true := h.2.1
    obtain ⟨as, ra⟩ := reads_of u r₁ h.1.1
    obtain ⟨bs, rb⟩ := reads_of u r₂ h.2.1
    rw [toPy] at rb
    exact SeqAt.notIn_tuple_reads rb ra (canLay_toPys _ z).1 (lays h.1).1 (room_of (lays h.1).2 un) (st _ q)
  | eqD h q =>
    obtain ⟨as, ra⟩ := reads_of u r₁ h.1.1
    obtain ⟨bs, rb⟩ := reads_of u r₂ h.2.1
    exact eq_dataH ra rb h.1.shaped h.2.shaped un (st _ q)
  | neD h q =>
    obtain ⟨as, ra⟩ := reads_of u r₁ h.1.1
    obtain ⟨bs, rb⟩ := reads_of u r₂ h.2.1
    exact ne_dataH ra rb h.1.shaped h.2.shaped un (st _ q)
noncomputable def isSet : Expr → Bool
  | .Set .. => true
  | _ => false
theorem noMarks {op : CmpOp} {r : Expr} (h : isSet r = false) : behindInMarks op r = false := by
  cases r <;> first | rfl | exact tf h
theorem ev_cmp (O : c.Ok) {l r : Expr} {op : CmpOp} (hs : isSet r = false) (h : EV c X l σ fun a σ₁ => EV c X r σ₁ fun b σ₂ => cmpR op a b fun v => Q v σ₂) : EV c X (.Compare l [op] [r] pos) σ Q :=
  ev_two (fun h => wpAny_Compare1 h (noMarks hs)) (fun I r₁ r₂ q p => cmp_sound O I r₁ r₂ q p) h
end
section
variable {c : Ctx} {X : Str → Prop} {σ : S} {Q : VPost} {B : Bool → S → Prop} {pos : Pos} {k : Nat}

-- tests
theorem wpAny_rel {M : Model} {A : Around} {E : Value → Shared → Prop} {s : Shared} {vs keep : List Value} {Q : Unit → Shared → Prop} (h : Q () s) : wpAny M A (release vs keep) Q E s := fun Γ p hΓ => by
  rw [Sem.wp_release]; exact h
theorem wpAny_op {M : Model} {A : Around} {E : Value → Shared → Prop} {s : Shared} {vs : List Value} {m : Sem Value} {Q : Value → Shared → Prop} (h : wpAny M A m Q E s) : wpAny M A (operate vs m) Q E s := fun Γ p hΓ => by
  rw [Sem.wp_operate]; exact h Γ p hΓ
theorem eb_not {e : Expr} (h : EB c X e σ fun b σ₁ => B (!b) σ₁) : EB c X (.UnaryOp .Not e pos) σ B := fun s m P oa Φ E I p x =>
  isTrue_not (h s m P oa _ E I (fun b σ' h' tk' m' P' I' g q => p _ σ' h' tk' m' P' I' g q) x)
theorem eb_and_nil (q : B true σ) : EB c X (.BoolOp .And [] pos) σ B := fun s m P oa Φ E I p x => isTrue_and_nil (p _ σ _ _ m P I (Grows.refl P) q)
theorem eb_or_nil (q : B false σ) : EB c X (.BoolOp .Or [] pos) σ B := fun s m P oa Φ E I p x => isTrue_or_nil (p _ σ _ _ m P I (Grows.refl P) q)
theorem eb_and {e : Expr} {es : List Expr} (h : EB c X e σ fun b σ₁ => if b = true then EB c X (.BoolOp .And es pos) σ₁ B else B false σ₁) : EB c X (.BoolOp .And (e :: es) pos) σ B := fun s m P oa Φ E I p x =>
  isTrue_and (h s m P oa _ E I (fun b σ₁ h₁ tk₁ m₁ P₁ I₁ g₁ q₁ => by
    cases b with
    | true => exact q₁ _ m₁ P₁ oa Φ E I₁ (fun b σ' h' tk' m' P' I' g q => p b σ' h' tk' m' P' I' (g₁.trans g) q) x
    | false => exact p _ σ₁ h₁ tk₁ m₁ P₁ I₁ g₁ q₁) x)
theorem eb_or {e : Expr} {es : List Expr} (h : EB c X e σ fun b σ₁ => if b = true then B true σ₁ else EB c X (.BoolOp .Or es pos) σ₁ B) : EB c X (.BoolOp .Or (e :: es) pos) σ B := fun s m P oa Φ E I p x =>
  isTrue_or (h s m P oa _ E I (fun b σ₁ h₁ tk₁ m₁ P₁ I₁ g₁ q₁ => by
    cases b with
    | false => exact q₁ _ m₁ P₁ oa Φ E I₁ (fun b σ' h' tk' m' P' I' g q => p b σ' h' tk' m' P' I' (g₁.trans g) q) x
    | true => exact p _ σ₁ h₁ tk₁ m₁ P₁ I₁ g₁ q₁) x)
theorem eb_cmp (O : c.Ok) {l r : Expr} {op : CmpOp} (hs : isSet r = false) (h : EV c X l σ fun a σ₁ => EV c X r σ₁ fun b σ₂ => cmpR op a b fun v => ∃ t, v = .bool t ∧ B t σ₂) : EB c X (.Compare l [op] [r] pos) σ B := fun s m P oa Φ E I p x =>
  wpAny_isTrue_Compare1 (h s m P oa _ E I (fun v d σ₁ h₁ tk₁ m₁ P₁ I₁ g₁ r₁ q₁ => q₁ _ m₁ P₁ oa _ E I₁ (fun w e σ₂ h₂ tk₂ m₂ P₂ I₂ g₂ r₂ q₂ =>
    cmp_sound O I₂ (r₁.mono g₂) r₂ q₂ fun v d h' tk' P' I' g r q => by
      obtain ⟨t, rfl, q⟩ := q
      obtain rfl := r.bool_inv
      exact wpAny_truthy_bool (p _ σ₂ h' tk' m₂ P' I' ((g₁.trans g₂).trans g) q)) x) x) (noMarks hs)
noncomputable def plainTest : Expr → Bool
  | .UnaryOp .. | .BoolOp .. | .IfExp .. | .Compare .. => false
  | _ => true
theorem eb_val {e : Expr} (he : plainTest e = true) (h : EV c X e σ fun v σ₁ => ∃ t, v = .bool t ∧ B t σ₁) : EB c X e σ B := fun s m P oa Φ E I p x =>
  isTrue_plain (h s m P oa _ E I (fun v d σ₁ h₁ tk₁ m₁ P₁ I₁ g₁ r₁ q₁ => by
    obtain ⟨t, rfl, q⟩ := q₁
    obtain rfl := r₁.bool_inv
    exact wpAny_truthy_bool (p _ σ₁ h₁ tk₁ m₁ P₁ I₁ g₁ q)) x) (by cases e <;> first | rfl | exact tf he.symm)
/-- a chain of two -/
theorem eb_chain (O : c.Ok) {l r r' : Expr} {op op' : CmpOp} (hs : isSet r' = false)
    (h : EV c X l σ fun a σ₁ => EV c X r σ₁ fun b σ₂ => cmpR op a b fun v => ∃ t, v = .bool t ∧ if t = true then EV c X r' σ₂ (fun d σ₃ => cmpR op' b d fun v => ∃ t, v = .bool t ∧ B t σ₃) else B false σ₂) :
    EB c X (.Compare l [op, op'] [r, r'] pos) σ B := fun s m P oa Φ E I p x => by
  refine isTrue_chain (h s m P oa _ E I (fun v d σ₁ h₁ tk₁ m₁ P₁ I₁ g₁ r₁ q₁ => ?_) x) (by show lastMarks [op'] [r'] = false; exact noMarks hs)
  show wpAny _ _ (do
    let rv ← holding [v] (eval r c.env)
    standAt pos
    let cc ← holding [v, rv] (compareOp op v rv)
    release [v, rv] [cc]
    if ← holding [cc, rv] (truthy cc) then testChain pos rv [op'] [eval r' c.env] else pure false) _ _ _
  refine wpAny_bind (wpAny_holding (q₁ _ m₁ P₁ oa _ E I₁ (fun w e σ₂ h₂ tk₂ m₂ P₂ I₂ g₂ r₂ q₂ => ?_) x))
  refine wpAny_bind (wpAny_standAt (wpAny_bind (wpAny_holding (cmp_sound O I₂ (r₁.mono g₂) r₂ q₂ fun z dz h₃ tk₃ P₃ I₃ g₃ r₃ q₃ => ?_))))
  obtain ⟨t, rfl, q₃⟩ := q₃
  obtain rfl := r₃.bool_inv
  refine wpAny_bind (wpAny_rel (wpAny_bind (wpAny_holding (wpAny_truthy_bool ?_))))
  cases t with
  | false => exact wpAny_pure (p _ σ₂ h₃ tk₃ m₂ P₃ I₃ ((g₁.trans g₂).trans g₃) q₃)
  | true =>
    show wpAny _ _ (do
      let rv ← holding [w] (eval r' c.env)
      standAt pos
      let cc ← operate [w, rv] (compareOp op' w rv)
      holding [cc] (truthy cc)) _ _ _
    refine wpAny_bind (wpAny_holding (q₃ _ m₂ P₃ oa _ E I₃ (fun y dy σ₄ h₄ tk₄ m₄ P₄ I₄ g₄ r₄ q₄ => ?_) x))
    refine wpAny_bind (wpAny_standAt (wpAny_bind (wpAny_op ?_)))
    refine cmp_sound O I₄ ((r₂.mono g₃).mono g₄) r₄ q₄ fun z dz h₅ tk₅ P₅ I₅ g₅ r₅ q₅ => ?_
    obtain ⟨t, rfl, q₅⟩ := q₅
    obtain rfl := r₅.bool_inv
    exact wpAny_holding (wpAny_truthy_bool (p _ σ₄ h₅ tk₅ m₄ P₅ I₅ ((((g₁.trans g₂).trans g₃).trans g₄).trans g₅) q₅))

-- and, or as values
theorem ev_one {op : BoolOp} {e : Expr} (h : EV c X e σ Q) : EV c X (.BoolOp op [e] pos) σ Q := fun s m P oa Φ E I p x => BoolOp_one (h s m P oa Φ E I p x)
theorem ev_and {e e' : Expr} {es : List Expr} (h : EV c X e σ fun v σ₁ => ∃ t, v = .bool t ∧ if t = true then EV c X (.BoolOp .And (e' :: es) pos) σ₁ Q else Q v σ₁) : EV c X (.BoolOp .And (e :: e' :: es) pos) σ Q := fun s m P oa Φ E I p x =>
  BoolOp_and (h s m P oa _ E I (fun v d σ₁ h₁ tk₁ m₁ P₁ I₁ g₁ r₁ q₁ => by
    obtain ⟨t, rfl, q₁⟩ := q₁
    obtain rfl := r₁.bool_inv
    refine wpAny_truthy_bool ?_
    cases t with
    | true => exact q₁ _ m₁ P₁ oa Φ E I₁ (fun v d σ' h' tk' m' P' I' g r q => p v d σ' h' tk' m' P' I' (g₁.trans g) r q) x
    | false => exact p _ _ σ₁ h₁ tk₁ m₁ P₁ I₁ g₁ (.bool _) q₁) x)
theorem ev_or {e e' : Expr} {es : List Expr} (h : EV c X e σ fun v σ₁ => ∃ t, v = .bool t ∧ if t = true then Q v σ₁ else EV c X (.BoolOp .Or (e' :: es) pos) σ₁ Q) : EV c X (.BoolOp .Or (e :: e' :: es) pos) σ Q := fun s m P oa Φ E I p x =>
  BoolOp_or (h s m P oa _ E I (fun v d σ₁ h₁ tk₁ m₁ P₁ I₁ g₁ r₁ q₁ => by
    obtain ⟨t, rfl, q₁⟩ := q₁
    obtain rfl := r₁.bool_inv
    refine wpAny_truthy_bool ?_
    cases t with
    | false => exact q₁ _ m₁ P₁ oa Φ E I₁ (fun v d σ' h' tk' m' P' I' g r q => p v d σ' h' tk' m' P' I' (g₁.trans g) r q) x
    | true => exact p _ _ σ₁ h₁ tk₁ m₁ P₁ I₁ g₁ (.bool _) q₁) x)

-- items
noncomputable def itemAt {α : Type} (i : Int) (l : List α) : Option α := if 0 ≤ i then l[i.toNat]? else if 0 ≤ i + l.length then l[(i + l.length).toNat]? else none
inductive getR : V → V → (V → Prop) → Prop
  | tup {l : List V} {i : Int} {d : V} {Q : V → Prop} (hz : l.length ≤ 1000000) (h : itemAt i l = some d) (q : Q d) : getR (.tup l) (.int i) Q
  | lst {l : List V} {i : Int} {d : V} {Q : V → Prop} (hz : l.length ≤ 1000000) (h : itemAt i l = some d) (q : Q d) : getR (.lst l) (.int i) Q
  | str {x : Str} {i : Int} {n : Nat} {Q : V → Prop} (hz : x.length ≤ 1000000) (h : (seqIndex? i x.length).bind (x.cps[·]?) = some n) (q : Q (.str ⟨#[n]⟩)) : getR (.str x) (.int i) Q
noncomputable def isSl : Expr → Bool
  | .Slice .. => true
  | _ => false
theorem sub_plain {slice : Expr} (h : isSl slice = false) (o i : Value) : subscripted slice false o i = operate [o, i] (getItem o i) := by
  cases slice <;> first | rfl | exact tf h
theorem seqIndex_pos {i : Int} {n : Nat} (h0 : 0 ≤ i) (h1 : i < n) : seqIndex? i n = some i.toNat := by
  unfold seqIndex?
  rw [if_neg (show ¬ i < 0 by lia), if_pos (by rw [Bool.and_eq_true, decide_eq_true_eq, decide_eq_true_eq]; exact ⟨h0, h1⟩)]
theorem seqIndex_neg {i : Int} {n : Nat} (h0 : i < 0) (h1 : 0 ≤ i + n) : seqIndex? i n = some (i + n).toNat := by
  unfold seqIndex?
  rw [if_pos h0, if_pos (by rw [Bool.and_eq_true, decide_eq_true_eq, decide_eq_true_eq]; exact ⟨h1, by lia⟩)]
theorem seqIndex_in {i : Int} {n j : Nat} (h : seqIndex? i n = some j) : -(n : Int) ≤ i ∧ i < n := by
  unfold seqIndex? at h
  by_cases h0 : i < 0
  · rw [if_pos h0] at h
    by_cases h1 : (decide (0 ≤ i + (n : Int)) && decide (i + (n : Int) < n)) = true
    · rw [Bool.and_eq_true, decide_eq_true_eq, decide_eq_true_eq] at h1; lia
    · rw [if_neg h1] at h; cases h
  · rw [if_neg h0] at h
    by_cases h1 : (decide (0 ≤ i) && decide (i < (n : Int))) = true
    · rw [Bool.and_eq_true, decide_eq_true_eq, decide_eq_true_eq] at h1; lia
    · rw [if_neg h1] at h; cases h
theorem item_all {P : Fz} {vs : List Value} {ds : List V} {i : Int} {d : V} (r : VAll P vs ds) (h : itemAt i ds = some d) :
    ∃ v, VIn P v d ∧ ((0 ≤ i ∧ vs[i.toNat]? = some v ∧ i < ds.length) ∨ (i < 0 ∧ -(vs.length : Int) ≤ i ∧ vs[(i + vs.length).toNat]? = some v)) := by
  unfold itemAt at h
  have hl := r.length
  by_cases h0 : 0 ≤ i
  · rw [if_pos h0] at h
    obtain ⟨v, e, z⟩ := r.get h
    refine ⟨v, z, .inl ⟨h0, e, ?_⟩⟩
    have := (List.getElem?_eq_some_iff.mp h).1
    lia
  · rw [if_neg h0] at h
    by_cases h1 : 0 ≤ i + (ds.length : Int)
    · rw [if_pos h1] at h
      obtain ⟨v, e, z⟩ := r.get h
      exact ⟨v, z, .inr ⟨by lia, by lia, by rw [hl]; exact e⟩⟩
    · rw [if_neg h1] at h; cases h
theorem list_item {l : Addr} {vs : Array Value} {ds : List V} {i : Int} {t : Tok} {P : Fz} {d : V} {s : Shared} {Φ : Value → Shared → Prop} {E} (hl : s.heap.IsList l vs) (r : VAll P vs.toList ds) (hz : ds.length ≤ 1000000) (h : itemAt i ds = some d) (p : ∀ v, VIn P v d → Φ v s) :
    wpAny (model c.prog c.w) c.A (getItem (.ref l) (.int i t)) Φ E s := by
  have hlen := r.length
  rw [Array.length_toList] at hlen
  obtain ⟨v, z, ⟨h0, e, h1⟩ | ⟨h0, h1, e⟩⟩ := item_all r h
  · exact wpAny_getItem_list hl h0 (by lia) (by simpa using e) (p v z)
  · rw [Array.length_toList] at h1 e
    exact wpAny_getItem_list_neg hl h0 h1 (by lia) (by simpa using e) (p v z)
theorem get_sound {a i : V} {v w : Value} {s : Shared} {m : Str → Option Value} {P : Fz} {oa : Addr} {R : V → Prop} {Φ E} {value slice : Expr} (I : Inv c s.heap m P oa σ) (hsl : isSl slice = false) (r₁ : VIn P v a) (r₂ : VIn P w i) (q : getR a i R) (p : Owes c s m P oa σ R Φ) :
    wpAny (model c.prog c.w) c.A (subscriptTail value slice v w) Φ E s := by
  have hs := sub_plain hsl
  cases q with
  | @tup l i d _ hz hd q =>
    obtain ⟨_, rfl⟩ := r₂.int_inv
    obtain ⟨b, ob, vs, n, rfl, pa, ca, da, ra⟩ := r₁.tup_inv
    ·
      obtain ⟨sl, ua⟩ := (I.frz _ _ pa).1
      have hT : IsTup s.heap b vs := ⟨_, ua, ca, n, da⟩
      have hlen := ra.length
      rw [Array.length_toList] at hlen
      have fin : ∀ v, VIn P v d → Φ v s := fun v z => p v d s.heap s.toks P I (Grows.refl P) z q
      obtain ⟨v, z, ⟨h0, e, h1⟩ | ⟨h0, h1, e⟩⟩ := item_all ra hd
      · exact tail_any hT.typeIs slot_tuple_getitem.lookup (getItem_tuple hT (by lia) (by lia) (j := i.toNat) (seqIndex_pos h0 (by lia)) (by simpa using e) (fin v z)) (hs _ _)
      · rw [Array.length_toList] at h1 e
        exact tail_any hT.typeIs slot_tuple_getitem.lookup (getItem_tuple hT (by lia) (by lia) (j := (i + (vs.size : Int)).toNat) (seqIndex_neg h0 (by lia)) (by simpa using e) (fin v z)) (hs _ _)
  | lst hz hd q =>
    obtain ⟨_, rfl⟩ := r₂.int_inv
    obtain ⟨_, _, _, _, rfl, pa, ca, da, ra⟩ := r₁.lst_inv
    ·
      obtain ⟨sl, ua⟩ := (I.frz _ _ pa).1
      have hL : s.heap.IsList _ _ := ⟨_, ua, ca, _, da⟩
      exact tail_any hL.typeIs slot_list_getitem.lookup (list_item hL ra hz hd fun v z => p v _ s.heap s.toks P I (Grows.refl P) z q) (hs _ _)
  | @str x i n _ hz hn q =>
    obtain ⟨t, rfl⟩ := r₁.str_inv
    obtain ⟨u, rfl⟩ := r₂.int_inv
    obtain ⟨j, hj, hn'⟩ := Option.bind_eq_some_iff.mp hn
    have hi := seqIndex_in hj
    refine tail_any (typeIs_str _ x t) slot_str_getitem.lookup (getItem_str ?_ hn (p _ _ s.heap _ P I (Grows.refl P) (.str _ _) q)) (hs _ _)
    have a1 : decide (i < -(2 ^ 63 : Int)) = false := decide_eq_false (by lia)
    have a2 : decide (i ≥ 2 ^ 63) = false := decide_eq_false (by lia)
    rw [a1, a2]; rfl
end
section
variable {c : Ctx} {X : Str → Prop} {σ : S} {Q : VPost} {B : Bool → S → Prop} {pos : Pos} {k : Nat}

theorem ev_item {value slice : Expr} (hsl : isSl slice = false) (h : EV c X value σ fun a σ₁ => EV c X slice σ₁ fun i σ₂ => getR a i fun v => Q v σ₂) : EV c X (.Subscript value slice pos) σ Q :=
  ev_two (T := subscriptTail value slice) (fun h => Subscript_ h) (fun I r₁ r₂ q p => get_sound I hsl r₁ r₂ q p) h

noncomputable def strSl (x : Str) (lo hi : Option Int) : Str :=
  if ((Builtin.Str.strSliceIndices lo hi 1 x.length).length == x.length) = true then x else ⟨((Builtin.Str.strSliceIndices lo hi 1 x.length).filterMap (x.cps[·]?)).toArray⟩
noncomputable def lstSl {α : Type} (l : List α) (lo hi : Option Int) : List α :=
  (sliceRange (sliceBounds lo hi none l.length).1 (sliceBounds lo hi none l.length).2.1 (sliceBounds lo hi none l.length).2.2).filterMap (l[·]?)
noncomputable def sliceR (a : V) (lo hi : Option Int) (Q : V → Prop) : Prop :=
  match a with
  | .str x => (strSl x lo hi).length ≤ 1000000 ∧ Q (.str (strSl x lo hi))
  | .lst l => l.length ≤ 1000000 ∧ Q (.lst (lstSl l lo hi))
  | _ => False
noncomputable def EP (c : Ctx) (X : Str → Prop) (e : Option Expr) (σ : S) (Q : Option Int → S → Prop) : Prop :=
  match e with
  | none => Q none σ
  | some e => EV c X e σ fun d σ₁ => ∃ i, d = .int i ∧ Q (some i) σ₁
theorem vall_pick {P : Fz} {vs : List Value} {ds : List V} (r : VAll P vs ds) : ∀ l : List Nat, VAll P (l.filterMap (vs[·]?)) (l.filterMap (ds[·]?))
  | [] => .nil
  | i :: l => by
    rw [List.filterMap_cons, List.filterMap_cons]
    cases h : vs[i]? with
    | none =>
      have : ds[i]? = none := by rw [List.getElem?_eq_none_iff, ← r.length]; exact List.getElem?_eq_none_iff.mp h
      rw [this]; exact vall_pick r l
    | some v =>
      obtain ⟨d, e, z⟩ := r.get' h
      rw [e]; exact .cons z (vall_pick r l)
theorem part_walk {e : Option Expr} {σ : S} {Q' : Option Int → S → Prop} (h : EP c X e σ Q') {s : Shared} {m P oa Φ E} (I : Inv c s.heap m P oa σ) (x : ExP c X s E)
    (p : ∀ v i σ' h' tk' m' P', Inv c h' m' P' oa σ' → Grows P P' → (∃ t : Option (Int × Tok), v = partValue t ∧ i = t.map (·.1)) → Q' i σ' → Φ v { s with heap := h', toks := tk' }) :
    wpAny (model c.prog c.w) c.A (evalPart e c.env) Φ E s := by
  cases e with
  | none => exact wpAny_pure (p _ _ σ _ _ m P I (Grows.refl P) ⟨none, rfl, rfl⟩ h)
  | some e =>
    rw [evalPart_some]
    refine h s m P oa _ E I (fun v d σ₁ h₁ tk₁ m₁ P₁ I₁ g₁ r₁ q₁ => ?_) x
    obtain ⟨i, rfl, q₁⟩ := q₁
    obtain ⟨_, rfl⟩ := r₁.int_inv
    exact p _ _ σ₁ h₁ tk₁ m₁ P₁ I₁ g₁ ⟨some (_, _), rfl, rfl⟩ q₁
theorem isPart_of {v : Value} {i : Option Int} (h : ∃ t : Option (Int × Tok), v = partValue t ∧ i = t.map (·.1)) : IsPart v i := by
  obtain ⟨t, rfl, rfl⟩ := h
  cases t with
  | none => exact .none
  | some t => exact .int _ _
theorem ev_slice {value : Expr} {lo hi : Option Expr} {p₀ : Pos} (h : EV c X value σ fun a σ₁ => EP c X lo σ₁ fun l σ₂ => EP c X hi σ₂ fun u σ₃ => sliceR a l u fun v => Q v σ₃) : EV c X (.Subscript value (.Slice lo hi none p₀) pos) σ Q := fun s m P oa Φ E I p x =>
  Subscript_ (h s m P oa _ E I (fun o a σ₁ h₁ tk₁ m₁ P₁ I₁ g₁ r₁ q₁ => wpAny_Slice (part_walk q₁ I₁ x fun vl l σ₂ h₂ tk₂ m₂ P₂ I₂ g₂ e₂ q₂ => part_walk q₂ I₂ x fun vu u σ₃ h₃ tk₃ m₃ P₃ I₃ g₃ e₃ q₃ => by
    rw [evalPart_none]
    refine wpAny_pure ?_
    have I₄ := I₃.pushAny { cls := .type "slice", data := .fields #[vl, vu, .none] }
    have r₁ := (r₁.mono g₂).mono g₃
    have hs : ∀ i, subscripted (.Slice lo hi none p₀) false o i = operate [i, o] (getItem o i) := fun i => rfl
    cases a with
    | str y =>
      obtain ⟨t, rfl⟩ := r₁.str_inv
      have q₃ : (strSl y l u).length ≤ 1000000 ∧ Q (.str (strSl y l u)) σ₃ := q₃
      obtain ⟨tl, rfl, rfl⟩ := e₂
      obtain ⟨tu, rfl, rfl⟩ := e₃
      refine tail_any (typeIs_str _ y t) PySem.F.slot_str_getitem.lookup (wpAny_getItem_str_slice (l := tl) (u := tu) (st := none) ⟨_, Heap.get?_push_size _ rfl, rfl, rfl⟩ rfl ?_) (hs _)
      have e : strSl y (tl.map (·.1)) (tu.map (·.1)) = if ((Builtin.Str.strSliceIndices (tl.map (·.1)) (tu.map (·.1)) 1 y.length).length == y.length) = true then y else ⟨((Builtin.Str.strSliceIndices (tl.map (·.1)) (tu.map (·.1)) 1 y.length).filterMap (y.cps[·]?)).toArray⟩ := rfl
      unfold sliceMade slicePicked
      show (if (true && (Builtin.Str.strSliceIndices (tl.map (·.1)) (tu.map (·.1)) 1 y.length).length == y.length) = true then _ else _ : Made).post _ _
      rw [Bool.true_and]
      rw [e] at q₃
      by_cases hc : ((Builtin.Str.strSliceIndices (tl.map (·.1)) (tu.map (·.1)) 1 y.length).length == y.length) = true
      · rw [if_pos hc] at q₃ ⊢
        exact p _ _ σ₃ _ _ m₃ P₃ I₄ ((g₁.trans g₂).trans g₃) (.str _ _) q₃.2
      · rw [if_neg hc] at q₃ ⊢
        exact ⟨Nat.le_trans q₃.1 (by decide), p _ _ σ₃ _ _ m₃ P₃ I₄ ((g₁.trans g₂).trans g₃) (.str _ _) q₃.2⟩
    | lst ds =>
      have q₃ : ds.length ≤ 1000000 ∧ Q (.lst (lstSl ds l u)) σ₃ := q₃
      obtain ⟨ad, ob, vs, n, rfl, pa, ca, da, ra⟩ := r₁.lst_inv
      ·
        obtain ⟨sl, ua⟩ := (I₄.frz _ _ pa).1
        have hL : (h₃.push { cls := .type "slice", data := .fields #[vl, vu, .none] }).IsList ad vs := ⟨_, ua, ca, _, da⟩
        have hlen := ra.length
        rw [Array.length_toList] at hlen
        refine tail_any hL.typeIs PySem.F.slot_list_getitem.lookup (wpAny_getItem_list_slice hL (Heap.IsSliceOf.new ..) (isPart_of e₂) (isPart_of e₃) .none (by simp) ?_ (by rw [hlen]; exact Nat.le_trans q₃.1 (by decide))) (hs _)
        refine p _ _ σ₃ _ _ m₃ _ (I₄.push { cls := .type "list", data := .seq (slicePick vs l u none) } (nf_seq rfl) rfl) (fun _ _ q => .inl (g₃ _ _ (g₂ _ _ (g₁ _ _ q)))) (.lst (.inr ⟨rfl, rfl⟩) rfl rfl ?_) q₃.2
        have e : (slicePick vs l u none).toList = (sliceRange (sliceBounds l u none ds.length).1 (sliceBounds l u none ds.length).2.1 (sliceBounds l u none ds.length).2.2).filterMap (vs.toList[·]?) := by
          unfold slicePick
          rw [hlen]
          simp
        rw [e]
        exact (vall_pick ra _).mono fun _ _ q => .inl q
    | _ => exact q₃.elim)) x)
end
noncomputable def noStars : List Expr → Bool
  | [] => true
  | e :: es => !isStar e && noStars es
theorem noStars_plain {pos : Pos} {env : Env} : ∀ {es : List Expr}, noStars es = true → (backTo pos (starEach es env)).any (·.1) = false
  | [], _ => rfl
  | e :: es, h => by
    simp only [noStars, Bool.and_eq_true, Bool.not_eq_true'] at h
    have ih := noStars_plain (pos := pos) (env := env) h.2
    rw [starEach_more h.1]
    show (false || (backTo pos (starEach es env)).any (·.1)) = false
    rw [ih]; rfl
section
variable {c : Ctx} {X : Str → Prop} {σ : S} {Q : VPost} {B : Bool → S → Prop} {pos : Pos} {k : Nat}

/-- a global name of the text's own -/
theorem glob_K (O : c.Ok) {x : Str} {p : Pos} {v : Value} {s : Shared} {Φ E} (ok : okName x = true) (st : c.base.StaysIn s.heap) (hk : c.env.kindOf x = some .globalImplicit) (hx : nsIn c.K mainGlobals x = some (some v)) (q : Φ v s) :
    wpAny (model c.prog c.w) c.A (eval (.Name x p) c.env) Φ E s :=
  Calls.Name_function_global O.kind hk (Calls.loadGlobal_global (by rw [O.glob]; exact O.g.keeps st) (mg_of O.KIn O.g hx) q) (okName.deb ok)
theorem glob_B (O : c.Ok) {x : Str} {p : Pos} {v : Value} {s : Shared} {Φ E} (ok : okName x = true) (st : c.base.StaysIn s.heap) (hk : c.env.kindOf x = some .globalImplicit) (hx : nsIn c.K mainGlobals x = some none) (hv : bootBuiltins x = some v) (hn : (x == ("__name__" : Str)) = false) (q : Φ v s) :
    wpAny (model c.prog c.w) c.A (eval (.Name x p) c.env) Φ E s :=
  Calls.Name_function_global O.kind hk (Calls.loadGlobal_builtin (by rw [O.glob]; exact O.g.keeps st) (mg_none_of O.KIn O.g hx) (by rw [O.blt]; exact O.b.keeps st) ((O.bu x (by simpa using hn)).trans hv) q) (okName.deb ok)

theorem ev_call (O : c.Ok) {x : Str} {p : Pos} {e : Expr} {es : List Expr} {sp : Spec} (ok : okName x = true) (ns : noStars (e :: es) = true) (hk : c.env.kindOf x = some .globalImplicit) {kp : Bool} (hf : c.fn x = some (kp, sp)) (hkp : kp = true ∨ c.hi = none)
    (h : EL c X pos (e :: es) σ fun ds σ₁ => sp ds fun r => match r with | .ret v => Q v σ₁ | .exc msg => X msg) : EV c X (.Call (.Name x p) (e :: es) [] pos) σ Q := fun s m P oa Φ E I pp xx => by
  obtain ⟨f, o, fd, hx, ho, hd, F⟩ := O.fnOk x kp sp hf
  have hs : isStar e = false := by simp only [noStars, Bool.and_eq_true, Bool.not_eq_true'] at ns; exact ns.1
  refine Call_Name rfl (glob_K O ok I.stay hk hx ?_)
  refine callWith_def (o := o) (fd := fd) hd (h s m P oa _ E I (fun vs ds σ₁ h₁ tk₁ m₁ P₁ I₁ g₁ r₁ q₁ => ⟨I₁.stay _ _ (O.KIn _ _ ho), ?_⟩) xx) (starEach_more hs)
  refine wpAny_call (F c.A c.fr _ P₁ vs ds _ _ _ O.hand O.frames O.depth O.units I₁.stay I₁.ff (fun a o z => ⟨(I₁.frz a o z).1, (I₁.frz a o z).2.1⟩) r₁ q₁ (fun v d h' tk' P' st up fk gr nw r q => ?_) (fun e msg h' tk' st up fl q => ?_))
  · exact pp v d σ₁ h' tk' m₁ P' (I₁.more st up (fun z => fk (hkp.resolve_right z)) gr nw) (g₁.trans gr) r q
  · obtain ⟨f1, f2, f3, dx, f0, f4, f5⟩ := fl
    exact xx e msg h' tk' ⟨st, I₁.upc.trans up, f2, f3, ⟨_, up.ns I₁.ns⟩, dx, f0, f4, .inl f5⟩ q

-- the own list, looked at
theorem own_walk (O : c.Ok) {x : Str} {p : Pos} {ds : List V} (ok : okName x = true) (hx : σ.own = some (x, ds)) {s : Shared} {m P oa Φ E} (I : Inv c s.heap m P oa σ) (q : Φ (.ref oa) s) :
    wpAny (model c.prog c.w) c.A (eval (.Name x p) c.env) Φ E s := by
  obtain ⟨_, _, _, _, _, a, _⟩ := I.own x ds hx
  exact wpAny_Name (load_at O (h := s.heap) I.ns a ok q) (okName.deb ok)
theorem getR_lst {l : List V} {i : V} {R : V → Prop} (h : getR (.lst l) i R) : ∃ k d, i = .int k ∧ l.length ≤ 1000000 ∧ itemAt k l = some d ∧ R d := by
  cases h with
  | lst hz h q => exact ⟨_, _, rfl, hz, h, q⟩
theorem ev_own_item (O : c.Ok) {x : Str} {p : Pos} {ds : List V} {slice : Expr} (ok : okName x = true) (hsl : isSl slice = false) (hx : σ.own = some (x, ds))
    (h : EV c X slice σ fun i σ₁ => ∃ ds', σ₁.own = some (x, ds') ∧ getR (.lst ds') i fun v => Q v σ₁) : EV c X (.Subscript (.Name x p) slice pos) σ Q := fun s m P oa Φ E I pp xx => by
  refine Subscript_ (own_walk O ok hx I (h s m P oa _ E I (fun w i σ₁ h₁ tk₁ m₁ P₁ I₁ g₁ r₁ q₁ => ?_) xx))
  have hs := sub_plain hsl
  obtain ⟨ds', hx', q₁⟩ := q₁
  obtain ⟨_, _, _, _, _, _, vs, hl, ra⟩ := I₁.own x ds' hx'
  obtain ⟨k, d, rfl, hz, hd, q₁⟩ := getR_lst q₁
  obtain ⟨_, rfl⟩ := r₁.int_inv
  exact tail_any hl.isList.typeIs slot_list_getitem.lookup (list_item hl.isList ra hz hd fun v z => pp v d σ₁ h₁ tk₁ m₁ P₁ I₁ g₁ z q₁) (hs _ _)
theorem kind_len : bootBuiltins (PySem.Str.ofString "len") = some (.builtin "len") := by decide +kernel
theorem ev_own_len (O : c.Ok) {x : Str} {p p' : Pos} {ds : List V} (ok : okName x = true) (hk : c.env.kindOf (PySem.Str.ofString "len") = some .globalImplicit) (hg : nsIn c.K mainGlobals (PySem.Str.ofString "len") = some none) (hx : σ.own = some (x, ds)) (hz : ds.length ≤ 1000000)
    (q : Q (.int ds.length) σ) : EV c X (.Call (.Name (PySem.Str.ofString "len") p) [.Name x p'] [] pos) σ Q := fun s m P oa Φ E I pp xx => by
  refine Call_Name rfl (glob_B O (by decide +kernel) I.stay hk hg kind_len (by decide +kernel) ?_)
  refine callWith_builtin1 (spliced_more (own_walk O ok hx I (spliced_none ?_)) rfl) rfl rfl
  obtain ⟨_, _, _, _, _, _, vs, hl, ra⟩ := I.own x ds hx
  have := ra.length
  rw [Array.length_toList] at this
  refine Calls.call_len_list hl.isList (by lia) ?_
  rw [this]
  exact pp _ _ σ s.heap _ m P I (Grows.refl P) (.int _ _) q
theorem ev_own_notin (O : c.Ok) {x : Str} {p : Pos} {l : Expr} (ok : okName x = true)
    (h : EV c X l σ fun a σ₁ => ∃ ds, σ₁.own = some (x, ds) ∧ cmpR .NotIn a (.lst ds) fun v => Q v σ₁) : EV c X (.Compare l [.NotIn] [.Name x p] pos) σ Q := fun s m P oa Φ E I pp xx => by
  refine wpAny_Compare1 (h s m P oa _ E I (fun v a σ₁ h₁ tk₁ m₁ P₁ I₁ g₁ r₁ q₁ => ?_) xx) rfl
  obtain ⟨ds, hx, q₁⟩ := q₁
  refine own_walk O ok hx I₁ ?_
  obtain ⟨_, _, _, _, _, _, vs, hl, ra⟩ := I₁.own x ds hx
  have u : ∀ a o, P₁ a o → Up h₁ a o := fun a o z => (I₁.frz a o z).1
  obtain ⟨o, ho, hc, n, hd⟩ := hl.isList
  cases q₁ with
  | notinL h q =>
  obtain ⟨as, rx⟩ := reads_of u r₁ h.1.1
  have z : plains ds = true := h.2.1
  obtain ⟨bs, rb⟩ := reads_ofs u ra z
  have un : c.A.units + 64 < cLine := by have := O.units; lia
  exact SeqAt.notIn_list_reads (Reads.list ho hc hd rb) rx (canLay_toPys _ z).1 (lays h.1).1 (room_of (lays h.1).2 un) (pp _ _ σ₁ h₁ tk₁ m₁ P₁ I₁ g₁ (.bool _) q)
theorem eb_of_ev {l r : Expr} {op : CmpOp} (hs : isSet r = false) (h : EV c X (.Compare l [op] [r] pos) σ fun v σ₁ => ∃ t, v = .bool t ∧ B t σ₁) : EB c X (.Compare l [op] [r] pos) σ B := fun s m P oa Φ E I p x => by
  have z := h s m P oa (fun v s' => wpAny (model c.prog c.w) c.A (truthy v) Φ E s') E I (fun v d σ₁ h₁ tk₁ m₁ P₁ I₁ g₁ r₁ q₁ => by
    obtain ⟨t, rfl, q⟩ := q₁
    obtain rfl := r₁.bool_inv
    exact wpAny_truthy_bool (p _ σ₁ h₁ tk₁ m₁ P₁ I₁ g₁ q)) x
  rw [eval_Compare1, markedBehindIn_of_false (noMarks hs)] at z
  rw [isTrue_Compare1, markedBehindIn_of_false (noMarks hs)]
  intro Γ pp hΓ
  have z := z Γ pp hΓ
  simp only [Sem.wp_bind', Sem.wp_holding, Sem.wp_cmd_standAt, Sem.wp_operate] at z ⊢
  refine Sem.wp_mono _ Γ _ (fun a p₁ s₁ h₁ => Sem.wp_mono _ Γ _ (fun b _ s₂ h₂ => Sem.wp_mono _ Γ _ (fun c p₃ s₃ h₃ => h₃ Γ p₃ hΓ) (fun _ _ _ h' => h') _ _ h₂) (fun _ _ _ h' => h') _ _ h₁) (fun _ _ _ h' => h') _ _ z
end
section
variable {c : Ctx} {X : Str → Prop} {σ : S} {Q : VPost} {B : Bool → S → Prop} {pos : Pos} {k : Nat}

/-- built-in functions -/
inductive Blt where
  | abs | len | max | str | int | list | sorted
noncomputable def Blt.name : Blt → Str
  | .abs => .ofString "abs" | .len => .ofString "len" | .max => .ofString "max" | .str => .ofString "str" | .int => .ofString "int" | .list => .ofString "list" | .sorted => .ofString "sorted"
noncomputable def Blt.val : Blt → Value
  | .abs => .builtin "abs" | .len => .builtin "len" | .max => .builtin "max" | .str => .type "str" | .int => .type "int" | .list => .type "list" | .sorted => .builtin "sorted"
theorem Blt.boot (b : Blt) : bootBuiltins b.name = some b.val := by cases b <;> decide +kernel
theorem Blt.okN (b : Blt) : okName b.name = true ∧ (b.name == ("__name__" : Str)) = false := by cases b <;> decide +kernel
noncomputable def intText (i : Int) : Str := .ofString (toString i)
inductive bltR : Blt → List V → (V → Prop) → Prop
  | abs {i : Int} {Q : V → Prop} (q : Q (.int (if i < 0 then -i else i))) : bltR .abs [.int i] Q
  | lens {x : Str} {Q : V → Prop} (h : x.length ≤ 1000000) (q : Q (.int x.length)) : bltR .len [.str x] Q
  | lenl {l : List V} {Q : V → Prop} (h : l.length ≤ 1000000) (q : Q (.int l.length)) : bltR .len [.lst l] Q
  | max {a b : Int} {Q : V → Prop} (q : Q (.int (if b > a then b else a))) : bltR .max [.int a, .int b] Q
  | str {i : Int} {Q : V → Prop} (h : i.natAbs < 2 ^ 64) (q : Q (.str (intText i))) : bltR .str [.int i] Q
  | int {i : Int} {Q : V → Prop} (q : Q (.int i)) : bltR .int [.int i] Q
  | list {l : List V} {Q : V → Prop} (h : l.length ≤ 1000000) (q : Q (.lst l)) : bltR .list [.lst l] Q
  | sorted {ns : List Int} {Q : V → Prop} (h : ns.length < 64) (q : ∀ ms : List Int, ms.Perm ns → ms.Pairwise (· ≤ ·) → Q (.lst (ms.map .int))) : bltR .sorted [.lst (ns.map .int)] Q
theorem ints_of {P : Fz} {vs : List Value} {ns : List Int} (r : VAll P vs (ns.map .int)) : IntsAre vs ns := by
  induction ns generalizing vs with
  | nil => obtain rfl := r.nil_inv; exact .nil
  | cons n ns ih => obtain ⟨_, _, rfl, h, q⟩ := r.cons_inv; obtain ⟨_, rfl⟩ := h.int_inv; exact .cons _ _ (ih q)
theorem of_ints {P : Fz} {vs : List Value} {ns : List Int} (r : IntsAre vs ns) : VAll P vs (ns.map .int) := by
  induction r with
  | nil => exact .nil
  | cons n t r ih => exact .cons (.int n t) ih
theorem blt_sound (O : c.Ok) {b : Blt} {ds : List V} {vs : List Value} {s : Shared} {m : Str → Option Value} {P : Fz} {oa : Addr} {R : V → Prop} {Φ E} (I : Inv c s.heap m P oa σ) (r : VAll P vs ds) (q : bltR b ds R) (p : Owes c s m P oa σ R Φ) :
    wpAny (model c.prog c.w) c.A (call b.val vs) Φ E s := by
  cases q with
  | abs q => obtain ⟨_, rfl⟩ := r.int_inv; exact call_abs_int fun u tk => p _ _ s.heap tk P I (Grows.refl P) (.int _ _) q
  | lens h q => obtain ⟨_, rfl⟩ := r.str_inv; exact len_str (by lia) (p _ _ s.heap _ P I (Grows.refl P) (.int _ _) q)
  | lenl h q =>
    obtain ⟨_, _, _, _, rfl, pa, ca, da, ra⟩ := r.lst_inv
    ·
        obtain ⟨sl, ua⟩ := (I.frz _ _ pa).1
        have := ra.length
        rw [Array.length_toList] at this
        exact Calls.call_len_list ⟨_, ua, ca, _, da⟩ (by lia) (p _ _ s.heap _ P I (Grows.refl P) (by rw [this]; exact .int _ _) q)
  | max q =>
    obtain ⟨_, _, rfl, k, k'⟩ := r.two_inv
    obtain ⟨_, _, rfl, rfl⟩ := k.int2 k'
    ·
        refine max_two_ints O.hand fun h' tk hk => p _ _ h' tk P (I.keeps hk) (Grows.refl P) ?_ q
        split <;> exact .int _ _
  | @str i _ h q =>
    obtain ⟨t, rfl⟩ := r.int_inv
    ·
      refine PySem.P.str_of_int ?_ (p _ _ s.heap _ P I (Grows.refl P) (.str _ _) q)
      by_cases h0 : i.natAbs = 0
      · rw [h0]; decide
      · have := (Nat.log2_lt (k := 64) h0).mpr h; lia
  | int q => obtain ⟨_, rfl⟩ := r.int_inv; exact PySem.call_int_int (p _ _ s.heap _ P I (Grows.refl P) (.int _ _) q)
  | list h q =>
    obtain ⟨ad, ob, vs, n, rfl, pa, ca, da, ra⟩ := r.lst_inv
    ·
        obtain ⟨sl, ua⟩ := (I.frz _ _ pa).1
        have := ra.length
        rw [Array.length_toList] at this
        refine call_list_seq ad (.inl rfl) ua ca da (fun h' c' hk hD => ?_) (by rw [this]; exact Nat.le_trans h (by decide))
        refine p _ _ h' _ (fun a x => P a x ∨ (a = s.heap.objs.size ∧ x = { cls := .type "list", dict := none, data := .seq vs c', slots := #[] })) (I.more (fun a x e => hk _ _ (I.stay a x e)) (.of_keeps hk) (fun _ => .of_keeps hk) (fun _ _ z => .inl z) fun a x z => ?_) (fun _ _ z => .inl z) (.lst (.inr ⟨rfl, rfl⟩) rfl rfl (ra.mono fun _ _ z => .inl z)) q
        rcases z with z | ⟨rfl, rfl⟩
        · exact .inl z
        · exact .inr ⟨Free.size _, nf_seq rfl, Up.of hD⟩
  | @sorted ns _ h64 q =>
    obtain ⟨ad, ob, vs, n, rfl, pa, ca, da, ra⟩ := r.lst_inv
    ·
        obtain ⟨sl, ua⟩ := (I.frz _ _ pa).1
        have hI := ints_of ra
        have hl : s.heap.IsList ad vs.toList.toArray := ⟨_, ua, ca, n, by simpa using da⟩
        refine sorted_ints hl hI (by rw [hI.length]; exact h64) fun out ms a1 a2 a3 => ?_
        obtain ⟨e, he⟩ := sortedAll_at s.heap vs.toList out
        have hk : ∀ b o, s.heap.get? b = some o → (sortedAll s.heap vs.toList out).get? b = some o := fun _ _ => sortedAll_old
        refine p _ _ _ _ (fun a x => P a x ∨ (a = s.heap.objs.size + 1 ∧ x = seqObj "list" out e)) (I.more (fun a x e => hk _ _ (I.stay a x e)) (.of_keeps hk) (fun _ => .of_keeps hk) (fun _ _ z => .inl z) fun a x z => ?_) (fun _ _ z => .inl z) (.lst (.inr ⟨rfl, rfl⟩) rfl rfl (of_ints a1)) (q ms a2 a3)
        rcases z with z | ⟨rfl, rfl⟩
        · exact .inl z
        · exact .inr ⟨.of_none (Heap.get?_none_of_le (Nat.le_succ _)), nf_seq rfl, Up.of he⟩
theorem ev_blt (O : c.Ok) {b : Blt} {p : Pos} {e : Expr} {es : List Expr} (ns : noStars (e :: es) = true) (hk : c.env.kindOf b.name = some .globalImplicit) (hg : nsIn c.K mainGlobals b.name = some none)
    (h : EL c X pos (e :: es) σ fun ds σ₁ => bltR b ds fun v => Q v σ₁) : EV c X (.Call (.Name b.name p) (e :: es) [] pos) σ Q := fun s m P oa Φ E I pp xx => by
  have hs : isStar e = false := by simp only [noStars, Bool.and_eq_true, Bool.not_eq_true'] at ns; exact ns.1
  refine Call_Name rfl (glob_B O b.okN.1 I.stay hk hg b.boot b.okN.2 ?_)
  have z := h s m P oa (fun vs s' => wpAny (model c.prog c.w) c.A (call b.val vs) Φ E s') E I (fun vs ds σ₁ h₁ tk₁ m₁ P₁ I₁ g₁ r₁ q₁ => blt_sound O I₁ r₁ q₁ fun v d h' tk' P' I' g r q => pp v d σ₁ h' tk' m₁ P' I' (g₁.trans g) r q) xx
  have hp : (backTo pos (starEach es c.env)).any (·.1) = false := noStars_plain (by simp only [noStars, Bool.and_eq_true] at ns; exact ns.2)
  cases b with
  | abs => exact callWith_builtin1 z (starEach_more hs) hp
  | len => exact callWith_builtin1 z (starEach_more hs) hp
  | max => exact callWith_builtin1 z (starEach_more hs) hp
  | sorted => exact callWith_builtin1 z (starEach_more hs) hp
  | str => exact PyProof.Rows.callWith_type1 z (starEach_more hs) hp
  | int => exact PyProof.Rows.callWith_type1 z (starEach_more hs) hp
  | list => exact PyProof.Rows.callWith_type1 z (starEach_more hs) hp
end
section
variable {c : Ctx} {X : Str → Prop} {σ : S} {Q : VPost} {B : Bool → S → Prop} {pos : Pos} {k : Nat}

/-- methods of texts -/
inductive Mth where
  | rjust | find | rstrip | join
noncomputable def Mth.name : Mth → Str
  | .rjust => .ofString "rjust" | .find => .ofString "find" | .rstrip => .ofString "rstrip" | .join => .ofString "join"
noncomputable def Mth.id : Mth → String
  | .rjust => "str.rjust" | .find => "str.find" | .rstrip => "str.rstrip" | .join => "str.join"
theorem Mth.slot (b : Mth) : Slot "str" b.name b.id := by
  cases b with
  | rjust => exact PySem.F.slot_str_rjust
  | find => exact PySem.F.slot_str_find
  | rstrip => exact PySem.F.slot_str_rstrip
  | join => exact PySem.F.slot_str_join
theorem Mth.type (b : Mth) : typeOf (.builtin b.id) = pure (.type "method_descriptor") := by
  cases b with
  | rjust => exact PySem.F.type_str_rjust
  | find => exact PySem.F.type_str_find
  | rstrip => exact PySem.F.type_str_rstrip
  | join => exact PySem.F.type_str_join
inductive mthR : Mth → Str → List V → (V → Prop) → Prop
  | rjust {x f : Str} {i : Int} {Q : V → Prop} (h : PadOk i = true ∧ f.length = 1) (q : Q (.str (Txt.rjustF x i (f.cps.getD 0 0)))) : mthR .rjust x [.int i, .str f] Q
  | find {x y : Str} {Q : V → Prop} (q : Q (.int (Txt.find x y))) : mthR .find x [.str y] Q
  | rstrip {x y : Str} {Q : V → Prop} (h : x.length ≤ 1000000) (q : Q (.str (Txt.rstripChars x y))) : mthR .rstrip x [.str y] Q
  | join {x y : Str} {Q : V → Prop} (h : y.length ≤ 1000000) (h2 : x.length ≤ 1000000) (q : Q (.str y)) : mthR .join x [.lst [.str y]] Q
theorem mth_sound (O : c.Ok) {b : Mth} {y : Str} {t : Tok} {ds : List V} {vs : List Value} {s : Shared} {m : Str → Option Value} {P : Fz} {oa : Addr} {R : V → Prop} {Φ E} (I : Inv c s.heap m P oa σ) (r : VAll P vs ds) (q : mthR b y ds R) (p : Owes c s m P oa σ R Φ) :
    wpAny (model c.prog c.w) c.A (call (.builtin b.id) (.str y t :: vs)) Φ E s := by
  cases q with
  | rjust h q =>
    obtain ⟨_, _, rfl, k, k'⟩ := r.two_inv; obtain ⟨_, rfl⟩ := k.int_inv; obtain ⟨_, rfl⟩ := k'.str_inv; exact rjust_fill h.1 h.2 fun t' tk => p _ _ s.heap tk P I (Grows.refl P) (.str _ _) q
  | find q => obtain ⟨_, rfl⟩ := r.str_inv; exact SC.find (p _ _ s.heap _ P I (Grows.refl P) (.int _ _) q)
  | rstrip h q => obtain ⟨_, rfl⟩ := r.str_inv; exact SC.rstripChars (fun t' tk => p _ _ s.heap tk P I (Grows.refl P) (.str _ _) q) (Nat.le_trans h (by decide))
  | @join _ z _ h1 h2 q =>
    obtain ⟨ad, ob, vs, n, rfl, pa, ca, da, ra⟩ := r.lst_inv
    ·
        obtain ⟨sl, ua⟩ := (I.frz _ _ pa).1
        obtain ⟨vl, rfl⟩ : ∃ vl, vs = List.toArray vl := ⟨vs.toList, by simp⟩
        rw [List.toList_toArray] at ra
        obtain ⟨u, rfl⟩ := ra.str_inv
        ·
          refine call_meets PySem.F.slot_str_join (typeIs_str _ _ _) PySem.F.entry_str_join (PySem.F.args_str_join_2 _ _) (meets_str_join_list y t ad [(z, u)] ?_) ⟨⟨_, ua, ca, n, da⟩, p _ _ s.heap s.toks P I (Grows.refl P) (.str _ _) q⟩
          simp only [List.map_cons, List.map_nil, Builtin.Str.tooLong]
          simp [sizeLine]
          lia
noncomputable def notBare : Expr → Bool
  | .Call (.Name ..) [] [] _ => false
  | _ => true
theorem base_plain {o : Expr} {a : Str} {env : Env} {t : Sem Value} (h : notBare o = true) : attributeBase o a env t = t := by
  unfold attributeBase
  cases o <;> first | rfl | skip
  rename_i f as ks p
  cases f <;> first | rfl | skip
  cases as <;> first | rfl | skip
  cases ks <;> first | rfl | exact tf h.symm
theorem all_plain {pos : Pos} {env : Env} : ∀ {es : List Expr}, noStars es = true → (backTo pos (starEach es env)).all (fun x => !x.1) = true
  | [], _ => rfl
  | e :: es, h => by
    simp only [noStars, Bool.and_eq_true, Bool.not_eq_true'] at h
    have ih := all_plain (pos := pos) (env := env) h.2
    rw [starEach_more h.1]
    show (true && (backTo pos (starEach es env)).all (fun x => !x.1)) = true
    rw [ih]; rfl
theorem ev_mth (O : c.Ok) {b : Mth} {o : Expr} {apos : Pos} {e : Expr} {es : List Expr} (ho : notBare o = true) (ns : noStars (e :: es) = true) (few : es.length < 20) (hline : (apos.endLine == pos.line) = true)
    (h : EV c X o σ fun a σ₁ => ∃ y, a = .str y ∧ EL c X pos (e :: es) σ₁ fun ds σ₂ => mthR b y ds fun v => Q v σ₂) : EV c X (.Call (.Attribute o b.name apos) (e :: es) [] pos) σ Q := fun s m P oa Φ E I pp xx => by
  have hs : isStar e = false := by simp only [noStars, Bool.and_eq_true, Bool.not_eq_true'] at ns; exact ns.1
  have hp : (backTo pos (starEach es c.env)).any (·.1) = false := noStars_plain (by simp only [noStars, Bool.and_eq_true] at ns; exact ns.2)
  refine wpAny_Call_method_lateS (base_plain ho) ?_ hline (h s m P oa _ E I (fun v a σ₁ h₁ tk₁ m₁ P₁ I₁ g₁ r₁ q₁ => ?_) xx)
  · rw [all_plain ns]
    show (true && true && decide ((e :: es).length + 0 + 0 < 30)) = true
    simp only [Bool.and_self, Bool.true_and, decide_eq_true_eq, List.length_cons]
    lia
  · obtain ⟨y, rfl, q₁⟩ := q₁
    obtain ⟨t, rfl⟩ := r₁.str_inv
    refine ⟨"str", b.id, PySem.F.plainAttrs_str, b.slot, b.type, typeIs_str _ _ _, (fun a e => by cases e), ?_⟩
    have z := q₁ { s with heap := h₁, toks := tk₁ } m₁ P₁ oa (fun vs s' => wpAny (model c.prog c.w) c.A (call (.builtin b.id) (.str y t :: vs)) Φ E s') E I₁ (fun vs ds σ₂ h₂ tk₂ m₂ P₂ I₂ g₂ r₂ q₂ => mth_sound O I₂ r₂ q₂ fun v d h' tk' P' I' g r q => pp v d σ₂ h' tk' m₂ P' I' ((g₁.trans g₂).trans g) r q) xx
    exact callWith_method1 z (starEach_more hs) hp
/-- the vector's two fields that are read -/
inductive attrR : V → Str → (V → Prop) → Prop
  | kind {l : List V} {Q : V → Prop} (q : Q (.str (.ofString "double"))) : attrR (.vec l) (.ofString "kind") Q
  | items {l : List V} {Q : V → Prop} (q : Q (.lst l)) : attrR (.vec l) (.ofString "items") Q
theorem attrR.vec {a : V} {n : Str} {Q : V → Prop} (h : attrR a n Q) : ∃ l, a = .vec l ∧ ((n = .ofString "kind" ∧ Q (.str (.ofString "double"))) ∨ (n = .ofString "items" ∧ Q (.lst l))) := by
  cases h with
  | kind q => exact ⟨_, rfl, .inl ⟨rfl, q⟩⟩
  | items q => exact ⟨_, rfl, .inr ⟨rfl, q⟩⟩
theorem attr_sound (O : c.Ok) {n : Str} {a : V} {v : Value} {s : Shared} {m : Str → Option Value} {P : Fz} {oa : Addr} {R : V → Prop} {Φ E} (I : Inv c s.heap m P oa σ) (r : VIn P v a) (q : attrR a n R) (p : Owes c s m P oa σ R Φ) :
    wpAny (model c.prog c.w) c.A (getAttr v n true) Φ E s := by
  obtain ⟨ll, rfl, q'⟩ := attrR.vec q
  clear q
  obtain ⟨x, dx, l, o, od, ol, es, n, k, vs, t, rfl, pa, ca, dda, da, pd, dd, gk, gi, pl, cl, dl, ra⟩ := r.vec_inv
  ·
      obtain ⟨sl, ua⟩ := (I.frz _ _ pa).1
      obtain ⟨sl', ud⟩ := (I.frz _ _ pd).1
      obtain ⟨c0, d0, dt0, s0⟩ := o
      obtain ⟨c1, d1, dt1, s1⟩ := od
      simp only at ca dda da dd
      subst ca dda da dd
      have IA : InstAt s.heap x ⟨.ref vecC, some dx, .plain, sl⟩ vecC (some ⟨c1, d1, .dict es.toArray n, sl'⟩) := ⟨ua, rfl, rfl, ud⟩
      have X : c.K.In s.heap := O.KIn.keeps I.stay
      obtain ⟨k1, k2⟩ := O.vecK.get
      obtain ⟨ak, k3, k4⟩ := O.vecK.kind
      obtain ⟨ai, k6, k7⟩ := O.vecK.items
      have lk : ∀ n', lookIn n' (⟨c1, d1, .dict es.toArray n, sl'⟩ : Obj) = getL n' es := fun n' => rfl
      rcases q' with ⟨rfl, q⟩ | ⟨rfl, q⟩
      · exact get_value X IA (plainGet_of k1).1 (findObj_own k2 k3 k4 ((lk _).trans gk)) rfl (p _ _ s.heap _ P I (Grows.refl P) (.str _ _) q)
      · exact get_value X IA (plainGet_of k1).1 (findObj_own k2 k6 k7 ((lk _).trans gi)) rfl (p _ _ s.heap _ P I (Grows.refl P) (.lst pl cl dl ra) q)
theorem ev_attr (O : c.Ok) {n x : Str} {np : Pos} (h : EV c X (.Name x np) σ fun a σ₁ => attrR a n fun v => Q v σ₁) : EV c X (.Attribute (.Name x np) n pos) σ Q := fun s m P oa Φ E I pp xx =>
  Attribute_name (h s m P oa _ E I (fun v a σ₁ h₁ tk₁ m₁ P₁ I₁ g₁ r₁ q₁ => attr_sound O I₁ r₁ q₁ fun v d h' tk' P' I' g r q => pp v d σ₁ h' tk' m₁ P' I' (g₁.trans g) r q) xx)
end
noncomputable def S.put (σ : S) (x : Str) (d : V) : S := ⟨setV x d σ.vars, match σ.own with | some (y, ds) => if (y == x) = true then none else some (y, ds) | none => none⟩
/-- the own list is given away -/
noncomputable def S.shut (σ : S) : S := ⟨match σ.own with | some (y, ds) => setV y (.lst ds) σ.vars | none => σ.vars, none⟩
noncomputable def S.mk' (σ : S) (x : Str) (ds : List V) : S := ⟨delV x σ.shut.vars, some (x, ds)⟩

/-- the frame's own cells may be written -/
noncomputable def Ctx.Own (c : Ctx) : Prop := ∀ x a, c.env.cells.lookup x = some a → c.base.get? a = none ∧ Free c.hc a

theorem nf_keep {h h' : Heap} {a : Addr} {o' : Obj} (hs : Heap.SameBut a h h') (e : h'.get? a = some o') (n : NF o') : ∀ b o, h.get? b = some o → NF o → ∃ o', h'.get? b = some o' ∧ NF o' := fun b o hb hn => by
  by_cases q : b = a
  · subst q; exact ⟨_, e, n⟩
  · exact ⟨o, (hs.2 b q).trans hb, hn⟩
section
variable {c : Ctx} {h h' : Heap} {m m' : Str → Option Value} {P : Fz} {oa : Addr} {σ : S}
theorem Inv.nfL (I : Inv c h m P oa σ) : ∀ o, h.get? c.env.locals = some o → NF o := fun o q => by
  obtain ⟨oL, es, ep, hL, hd, _⟩ := I.ns
  rw [hL] at q; cases q; exact nf_dict hd
theorem Inv.nfC (I : Inv c h m P oa σ) {x : Str} {a : Addr} (hc : c.env.cells.lookup x = some a) : ∀ o, h.get? a = some o → NF o := fun o q => by
  obtain ⟨_, _, v, oc, ho, hd⟩ := I.cel x a hc
  rw [ho] at q; cases q; exact nf_cell hd
/-- a place of the frame's own is written: what stays -/
theorem Inv.wrote (I : Inv c h m P oa σ) {a : Addr} {o' : Obj} (hb : c.base.get? a = none) (hf : Free c.hc a) (hs : Heap.SameBut a h h') (e : h'.get? a = some o') (n : NF o') (nb : ∀ o, h.get? a = some o → NF o) :
    c.base.StaysIn h' ∧ c.hc.UpToSlots h' ∧ (∀ hi, c.hi = some hi → FK hi h') ∧ h'.FunFrames c.base c.fr ∧ (∀ b o, b ≠ a → Up h b o → Up h' b o) := by
  refine ⟨fun b o z => ?_, fun b o z q => ?_, fun hi z => (I.itk hi z).trans (FK.same hs nb), funFrames_nf (nf_keep hs e n) I.ff, fun b o q ⟨sl, u⟩ => ⟨sl, (hs.2 b q).trans u⟩⟩
  · have : b ≠ a := fun q => by rw [q, hb] at z; cases z
    exact (hs.2 b this).trans (I.stay b o z)
  · have : b ≠ a := fun w => hf o (w ▸ z) q
    obtain ⟨sl, u⟩ := I.upc b o z q
    exact ⟨sl, (hs.2 b this).trans u⟩
theorem isCell_same {a b : Addr} {v} (hs : Heap.SameBut a h h') (n : b ≠ a) (x : h.IsCell b v) : h'.IsCell b v := x.sameBut hs n
theorem isList_same {a b : Addr} {v} (hs : Heap.SameBut a h h') (n : b ≠ a) (x : OwnAt h b v) : OwnAt h' b v := by
  obtain ⟨k, sl, e⟩ := x
  exact ⟨k, sl, (hs.2 b n).trans e⟩
theorem S.put_own {σ : S} {x y : Str} {d : V} {ds : List V} (q : (σ.put x d).own = some (y, ds)) : σ.own = some (y, ds) ∧ y ≠ x := by
  obtain ⟨vars, own⟩ := σ
  cases own with
  | none => cases q
  | some p =>
    obtain ⟨z, es⟩ := p
    simp only [S.put] at q
    by_cases hz : (z == x) = true
    · rw [if_pos hz] at q; cases q
    · rw [if_neg hz] at q; cases q; exact ⟨rfl, fun e => hz (by rw [e]; simp)⟩
theorem Inv.putLocal (O : c.Ok) (I : Inv c h m P oa σ) {x : Str} {v : Value} {d : V} (hx : c.env.kindOf x = some .local) (hn : h'.Ns c.env.locals fun y => if y = x then some v else m y) (hs : Heap.SameBut c.env.locals h h') (r : VIn P v d) :
    Inv c h' (fun y => if y = x then some v else m y) P oa (σ.put x d) := by
  obtain ⟨oL, es, ep, hL, hd, _⟩ := id hn
  obtain ⟨s1, s2, sk, s3, s4⟩ := I.wrote O.Lb O.Lf hs hL (nf_dict hd) I.nfL
  have atm : ∀ {y w}, y ≠ x → At c h m y w → At c h' (fun y => if y = x then some v else m y) y w := fun {y w} hy q => by
    rcases q with ⟨q1, q2⟩ | ⟨q1, a, q2, q3⟩
    · exact .inl ⟨q1, by simp only [if_neg hy]; exact q2⟩
    · exact .inr ⟨q1, a, q2, isCell_same hs (I.cel y a q2).1 q3⟩
  refine ⟨s1, s2, sk, s3, hn, fun a o q => ?_, I.src, I.old, fun y a q => ?_, fun y e q => ?_, fun y ds q => ?_⟩
  · obtain ⟨u, n, l⟩ := I.frz a o q; exact ⟨s4 _ _ l u, n, l⟩
  · obtain ⟨f1, f2, v₀, f3⟩ := I.cel y a q; exact ⟨f1, f2, v₀, isCell_same hs f1 f3⟩
  · simp only [S.put, setV_lookup] at q
    by_cases hy : y = x
    · rw [if_pos hy] at q; cases q; subst hy; exact ⟨v, .inl ⟨hx, by simp⟩, r⟩
    · rw [if_neg hy] at q
      obtain ⟨w, f1, f2⟩ := I.vars y e q
      exact ⟨w, atm hy f1, f2⟩
  · obtain ⟨q, hy⟩ := S.put_own q
    obtain ⟨e1, e2, e3, e4, e5, e6, vs, e7, e8⟩ := I.own y ds q
    exact ⟨e1, e2, e3, e4, e5, atm hy e6, vs, isList_same hs e1 e7, e8⟩
theorem Inv.putCell (O : c.Ok) (W : c.Own) (I : Inv c h m P oa σ) {x : Str} {ca : Addr} {v : Value} {d : V} (hx : c.env.kindOf x = some .cell) (hc : c.env.cells.lookup x = some ca) (hv : h'.IsCell ca (some v)) (hs : Heap.SameBut ca h h') (r : VIn P v d) :
    Inv c h' m P oa (σ.put x d) := by
  obtain ⟨oc, ho, hd⟩ := id hv
  obtain ⟨w1, w2⟩ := W x ca hc
  obtain ⟨c1, c2, _⟩ := I.cel x ca hc
  obtain ⟨s1, s2, sk, s3, s4⟩ := I.wrote w1 w2 hs ho (nf_cell hd) (I.nfC hc)
  have atm : ∀ {y w}, y ≠ x → At c h m y w → At c h' m y w := fun {y w} hy q => by
    rcases q with ⟨q1, q2⟩ | ⟨q1, a, q2, q3⟩
    · exact .inl ⟨q1, q2⟩
    · exact .inr ⟨q1, a, q2, isCell_same hs (fun e => hy (O.celd _ _ _ (e ▸ q2) hc)) q3⟩
  refine ⟨s1, s2, sk, s3, I.ns.sameBut hs (Ne.symm c1), fun a o q => ?_, I.src, I.old, fun y a q => ?_, fun y e q => ?_, fun y ds q => ?_⟩
  · obtain ⟨u, n, l⟩ := I.frz a o q; exact ⟨s4 _ _ (fun e => c2 o (e ▸ q)) u, n, l⟩
  · obtain ⟨f1, f2, v₀, f3⟩ := I.cel y a q
    by_cases e : a = ca
    · subst e; exact ⟨f1, f2, _, hv⟩
    · exact ⟨f1, f2, v₀, isCell_same hs e f3⟩
  · simp only [S.put, setV_lookup] at q
    by_cases hy : y = x
    · rw [if_pos hy] at q; cases q; subst hy; exact ⟨v, .inr ⟨.inl hx, ca, hc, hv⟩, r⟩
    · rw [if_neg hy] at q
      obtain ⟨w, f1, f2⟩ := I.vars y e q
      exact ⟨w, atm hy f1, f2⟩
  · obtain ⟨q, hy⟩ := S.put_own q
    obtain ⟨e1, e2, e3, e4, e5, e6, vs, e7, e8⟩ := I.own y ds q
    exact ⟨e1, e2, e3, e4, e5, atm hy e6, vs, isList_same hs (fun e => e5 _ _ hc e.symm) e7, e8⟩
theorem Inv.shut (I : Inv c h m P oa σ) : ∃ P', Grows P P' ∧ Inv c h m P' oa σ.shut := by
  obtain ⟨vars, own⟩ := σ
  cases own with
  | none => exact ⟨P, Grows.refl P, I⟩
  | some p =>
    obtain ⟨x, ds⟩ := p
    obtain ⟨P', g, I', _⟩ := I.freeze
    exact ⟨P', g, I'⟩
/-- the own list's items change -/
theorem Inv.setOwn (I : Inv c h m P oa σ) {x : Str} {ds ds' : List V} {vs' : Array Value} (hx : σ.own = some (x, ds)) (hs : Heap.SameBut oa h h') (hl : OwnAt h' oa vs') (r : VAll P vs'.toList ds') : Inv c h' m P oa ⟨σ.vars, some (x, ds')⟩ := by
  obtain ⟨e1, e2, e3, e4, e5, e6, vs, e7, e8⟩ := I.own x ds hx
  obtain ⟨n, sl, ho⟩ := id hl
  have hd : (⟨.type "list", none, .seq vs' n, sl⟩ : Obj).data = .seq vs' n := rfl
  obtain ⟨s1, s2, sk, s3, s4⟩ := I.wrote e2 e3 hs ho (nf_seq hd) (fun o q => by obtain ⟨n, sl, z⟩ := e7; rw [z] at q; cases q; exact nf_seq rfl)
  have atm : ∀ {y w}, At c h m y w → At c h' m y w := fun {y w} q => by
    rcases q with ⟨q1, q2⟩ | ⟨q1, a, q2, q3⟩
    · exact .inl ⟨q1, q2⟩
    · exact .inr ⟨q1, a, q2, isCell_same hs (e5 _ _ q2) q3⟩
  refine ⟨s1, s2, sk, s3, I.ns.sameBut hs (Ne.symm e1), fun a o q => ?_, I.src, I.old, fun y a q => ?_, fun y e q => ?_, fun y es q => ?_⟩
  · obtain ⟨u, n, l⟩ := I.frz a o q; exact ⟨s4 _ _ (fun e => e4 o (e ▸ q)) u, n, l⟩
  · obtain ⟨f1, f2, v₀, f3⟩ := I.cel y a q; exact ⟨f1, f2, v₀, isCell_same hs (e5 _ _ q) f3⟩
  · obtain ⟨w, f1, f2⟩ := I.vars y e q; exact ⟨w, atm f1, f2⟩
  · cases q; exact ⟨e1, e2, e3, e4, e5, atm e6, _, hl, r⟩
/-- a fresh list is bound to a local name: it is the own one from now on -/
theorem Inv.mkOwn (O : c.Ok) (I : Inv c h m P oa σ) {x : Str} {a : Addr} {ds : List V} {vs : Array Value} (hno : σ.own = none) (hx : c.env.kindOf x = some .local) (hl : OwnAt h a vs) (hb : c.base.get? a = none) (hf : Free c.hc a) (hp : ∀ o, ¬ P a o) (hcl : ∀ y b, c.env.cells.lookup y = some b → b ≠ a) (r : VAll P vs.toList ds)
    (hn : h'.Ns c.env.locals fun y => if y = x then some (.ref a) else m y) (hs : Heap.SameBut c.env.locals h h') : Inv c h' (fun y => if y = x then some (.ref a) else m y) P a ⟨delV x σ.vars, some (x, ds)⟩ := by
  obtain ⟨oL, es, ep, hL, hd, _⟩ := id hn
  obtain ⟨s1, s2, sk, s3, s4⟩ := I.wrote O.Lb O.Lf hs hL (nf_dict hd) I.nfL
  have aL : a ≠ c.env.locals := fun e => by
    obtain ⟨n, sl, ho⟩ := hl
    obtain ⟨oL', es', ep', hL', hd', _⟩ := I.ns
    rw [e, hL'] at ho; cases ho
    cases hd'
  refine ⟨s1, s2, sk, s3, hn, fun b o q => ?_, I.src, I.old, fun y b q => ?_, fun y e q => ?_, fun y es q => ?_⟩
  · obtain ⟨u, n, l⟩ := I.frz b o q; exact ⟨s4 _ _ l u, n, l⟩
  · obtain ⟨f1, f2, v₀, f3⟩ := I.cel y b q; exact ⟨f1, f2, v₀, isCell_same hs f1 f3⟩
  · rw [delV_lookup] at q
    by_cases hy : y = x
    · rw [if_pos hy] at q; cases q
    · rw [if_neg hy] at q
      obtain ⟨w, f1, f2⟩ := I.vars y e q
      refine ⟨w, ?_, f2⟩
      rcases f1 with ⟨q1, q2⟩ | ⟨q1, b, q2, q3⟩
      · exact .inl ⟨q1, by simp only [if_neg hy]; exact q2⟩
      · exact .inr ⟨q1, b, q2, isCell_same hs (I.cel y b q2).1 q3⟩
  · cases q
    exact ⟨aL, hb, hf, hp, hcl, .inl ⟨hx, by simp⟩, vs, isList_same hs aL hl, r⟩
end
/-- how a statement ends -/
inductive Fl where
  | next | brk | cont
  | ret (v : V)
inductive FlIn (P : Fz) : Flow → Fl → Prop
  | next : FlIn P .next .next
  | brk : FlIn P .brk .brk
  | cont : FlIn P .cont .cont
  | ret {v : Value} {d : V} : VIn P v d → FlIn P (.ret v) (.ret d)
theorem FlIn.mono {P P' : Fz} (g : Grows P P') {f : Flow} {f' : Fl} (h : FlIn P f f') : FlIn P' f f' := by
  cases h with
  | next => exact .next
  | brk => exact .brk
  | cont => exact .cont
  | ret r => exact .ret (r.mono g)
noncomputable abbrev SPost := Fl → S → Prop
noncomputable def PostS (c : Ctx) (s : Shared) (P : Fz) (Q : SPost) (Φ : Flow → Shared → Prop) : Prop :=
  ∀ f f' σ' h' tk' m' P' oa', Inv c h' m' P' oa' σ' → Grows P P' → FlIn P' f f' → Q f' σ' → Φ f { s with heap := h', toks := tk' }
noncomputable def SX (c : Ctx) (X : Str → Prop) (st : Stmt) (σ : S) (Q : SPost) : Prop :=
  ∀ (s : Shared) m P oa Φ E, Inv c s.heap m P oa σ → PostS c s P Q Φ → ExP c X s E → wpAny (model c.prog c.w) c.A (exec st c.env) Φ E s
noncomputable def SS (c : Ctx) (X : Str → Prop) (sts : List Stmt) (σ : S) (Q : SPost) : Prop :=
  ∀ (s : Shared) m P oa Φ E, Inv c s.heap m P oa σ → PostS c s P Q Φ → ExP c X s E → wpAny (model c.prog c.w) c.A (execs sts c.env) Φ E s
section
variable {c : Ctx} {X : Str → Prop} {σ : S} {Q : SPost} {pos : Pos} {k : Nat}

theorem ss_nil (q : Q .next σ) : SS c X [] σ Q := fun s m P oa Φ E I p x => wpAny_execs_nil (p _ _ σ _ _ m P oa I (Grows.refl P) .next q)
theorem ss_cons {st : Stmt} {rest : List Stmt} (h : SX c X st σ fun f σ₁ => match f with | .next => SS c X rest σ₁ Q | f => Q f σ₁) : SS c X (st :: rest) σ Q := fun s m P oa Φ E I p x =>
  wpAny_execs_cons (h s m P oa _ E I (fun f f' σ₁ h₁ tk₁ m₁ P₁ oa₁ I₁ g₁ r₁ q₁ => by
    cases r₁ with
    | next => exact q₁ _ m₁ P₁ oa₁ Φ E I₁ (fun f f' σ' h' tk' m' P' oa' I' g r q => p f f' σ' h' tk' m' P' oa' I' (g₁.trans g) r q) x
    | brk => exact p _ _ σ₁ h₁ tk₁ m₁ P₁ oa₁ I₁ g₁ .brk q₁
    | cont => exact p _ _ σ₁ h₁ tk₁ m₁ P₁ oa₁ I₁ g₁ .cont q₁
    | ret r => exact p _ _ σ₁ h₁ tk₁ m₁ P₁ oa₁ I₁ g₁ (.ret r) q₁) x)
theorem sx_if {t : Expr} {b o : List Stmt} (h : EB c X t σ fun k σ₁ => if k = true then SS c X b σ₁ Q else SS c X o σ₁ Q) : SX c X (.If t b o pos) σ Q := fun s m P oa Φ E I p x =>
  wpAny_If (h s m P oa _ E I (fun k σ₁ h₁ tk₁ m₁ P₁ I₁ g₁ q₁ => by
    cases k with
    | true => exact q₁ _ m₁ P₁ oa Φ E I₁ (fun f f' σ' h' tk' m' P' oa' I' g r q => p f f' σ' h' tk' m' P' oa' I' (g₁.trans g) r q) x
    | false => exact q₁ _ m₁ P₁ oa Φ E I₁ (fun f f' σ' h' tk' m' P' oa' I' g r q => p f f' σ' h' tk' m' P' oa' I' (g₁.trans g) r q) x) x)
theorem sx_ret {e : Expr} (h : EV c X e σ fun d σ₁ => Q (.ret d) σ₁) : SX c X (.Return (some e) pos) σ Q := fun s m P oa Φ E I p x =>
  wpAny_Return_some (h s m P oa _ E I (fun v d σ₁ h₁ tk₁ m₁ P₁ I₁ g₁ r₁ q₁ => p _ _ σ₁ h₁ tk₁ m₁ P₁ oa I₁ g₁ (.ret r₁) q₁) x)
theorem sx_cont (q : Q .cont σ) : SX c X (.Continue pos) σ Q := fun s m P oa Φ E I p x => wpAny_Continue (p _ _ σ _ _ m P oa I (Grows.refl P) .cont q)
noncomputable def isComp : Expr → Bool
  | .ListComp .. | .SetComp .. | .DictComp .. => true
  | _ => false
theorem noSwap {e : Expr} {t : Option Expr} {n : Nat} {env : Env} (h : isComp e = false) : swapsWith e t n env = pure false := by
  cases e <;> first | rfl | exact tf h
theorem notCls (O : c.Ok) : (c.env.scope.kind == .class || (c.env.scope.kind == .module && c.env.locals != c.env.globals)) = false := by rw [O.kind]; rfl
/-- a name is bound -/
theorem store_walk (O : c.Ok) {x : Str} {v : Value} {d : V} {s : Shared} {m P oa E} {Φ : Unit → Shared → Prop} (I : Inv c s.heap m P oa σ) (r : VIn P v d) (hx : c.env.kindOf x = some .local ∨ (c.env.kindOf x = some .cell ∧ c.Own ∧ (c.env.cells.lookup x).isSome = true))
    (p : ∀ h' tk' m', Inv c h' m' P oa (σ.put x d) → FK s.heap h' → Φ () { s with heap := h', toks := tk' }) : wpAny (model c.prog c.w) c.A (storeName c.env x v) Φ E s := by
  rcases hx with hx | ⟨hx, W, hl⟩
  · exact wpAny_storeName_local hx I.ns (fun h' hn hs => p h' _ _ (I.putLocal O hx hn hs r) (FK.same hs I.nfL)) (notCls O)
  · obtain ⟨ca, hc⟩ := Option.isSome_iff_exists.mp hl
    obtain ⟨_, _, v₀, hv⟩ := I.cel x ca hc
    exact wpAny_storeName_cell O.kind hx hc hv fun h' hv' hs => p h' _ _ (I.putCell O W hx hc hv' hs r) (FK.same hs (I.nfC hc))
noncomputable abbrev Bindable (c : Ctx) (x : Str) : Prop := c.env.kindOf x = some .local ∨ (c.env.kindOf x = some .cell ∧ c.Own ∧ (c.env.cells.lookup x).isSome = true)
theorem sx_assign (O : c.Ok) {x : Str} {xp : Pos} {e : Expr} (hc : isComp e = false) (hx : Bindable c x) (h : EV c X e σ fun d σ₁ => Q .next (σ₁.put x d)) : SX c X (.Assign [.Name x xp] e pos) σ Q := fun s m P oa Φ E I p xx =>
  wpAny_Assign_Name (h s m P oa _ E I (fun v d σ₁ h₁ tk₁ m₁ P₁ I₁ g₁ r₁ q₁ => store_walk O I₁ r₁ hx fun h' tk' m' I' _ => p _ _ _ h' tk' m' P₁ oa I' g₁ .next q₁) xx) (noSwap hc)
theorem sx_aug (O : c.Ok) {x : Str} {xp : Pos} {e : Expr} {i : Int} (ok : okName x = true) (hx : Bindable c x) (hv : σ.vars.lookup x = some (.int i)) (h : EV c X e σ fun d σ₁ => ∃ j, d = .int j ∧ Q .next (σ₁.put x (.int (i + j)))) : SX c X (.AugAssign (.Name x xp) .Add e pos) σ Q := fun s m P oa Φ E I p xx => by
  obtain ⟨v, a, r⟩ := I.vars x _ hv
  refine wpAny_AugAssign_Name (load_at O (h := s.heap) I.ns a ok (h s m P oa _ E I (fun w d σ₁ h₁ tk₁ m₁ P₁ I₁ g₁ r₁ q₁ => ?_) xx))
  obtain ⟨j, rfl, q₁⟩ := q₁
  obtain ⟨_, _, rfl, rfl⟩ := r.int2 r₁
  exact iadd_int (store_walk O (s := { s with heap := h₁, toks := tk₁ + 1 }) I₁ (.int _ _) hx fun h' tk' m' I' _ => p _ _ _ h' tk' m' P₁ oa I' g₁ .next q₁)
theorem Inv.fresh {h : Heap} {m P oa} (I : Inv c h m P oa σ) : (∀ o, ¬ P h.objs.size o) ∧ c.base.get? h.objs.size = none ∧ Free c.hc h.objs.size ∧ ∀ y b, c.env.cells.lookup y = some b → b ≠ h.objs.size := by
  refine ⟨fun o z => Nat.lt_irrefl _ (I.frz _ _ z).1.lt, ?_, (Free.size h).back I.upc, fun y b q e => ?_⟩
  · cases z : c.base.get? h.objs.size with
    | none => rfl
    | some o => exact absurd (Heap.lt_size (I.stay _ _ z)) (Nat.lt_irrefl _)
  · obtain ⟨_, _, _, v⟩ := I.cel y b q
    have := v.lt
    rw [e] at this
    exact Nat.lt_irrefl _ this
/-- a list display is bound to a local name: it may be changed from now on -/
theorem sx_list (O : c.Ok) {x : Str} {xp p₀ : Pos} {es : List Expr} (hx : c.env.kindOf x = some .local) (h : EL c X p₀ es σ fun ds σ₁ => ds.length ≤ 1000000 ∧ Q .next (σ₁.mk' x ds)) : SX c X (.Assign [.Name x xp] (.List es p₀) pos) σ Q := fun s m P oa Φ E I p xx => by
  refine wpAny_Assign_Name (List_ (h s m P oa _ E I (fun vs ds σ₁ h₁ tk₁ m₁ P₁ I₁ g₁ r₁ q₁ => ?_) xx)) rfl
  refine wpAny_newObj_type ?_ (by show vs.toArray.size ≤ sizeLine; rw [List.size_toArray, r₁.length]; exact Nat.le_trans q₁.1 (by decide))
  obtain ⟨P₂, g₂, I₂⟩ := I₁.shut
  obtain ⟨f1, f2, f3, f4⟩ := I₂.fresh
  have I₃ := I₂.pushAny { cls := .type "list", data := .seq vs.toArray }
  exact wpAny_storeName_local hx I₃.ns (fun h' hn hs => p _ _ _ h' _ _ P₂ h₁.objs.size
    (I₃.mkOwn O rfl hx ⟨0, #[], Heap.get?_push_size _ rfl⟩ f2 f3 f1 f4 (by simpa using r₁.mono g₂) hn hs) (g₁.trans g₂) .next q₁.2) (notCls O)

/-- tuples taken apart -/
noncomputable def putAll : List Str → List V → S → Option S
  | [], [], σ => some σ
  | x :: xs, d :: ds, σ => putAll xs ds (σ.put x d)
  | _, _, _ => none
theorem ex_tup {xs : List Str} {ds : List V} {σ σ' : S} {p : S → Prop} (h : putAll xs ds σ = some σ') (q : p σ') : ∃ ds' σ'', V.tup ds = .tup ds' ∧ putAll xs ds' σ = some σ'' ∧ p σ'' := ⟨ds, σ', rfl, h, q⟩
/-- plain names, and what they are called -/
noncomputable def NameL (es : List Expr) (xs : List Str) : Prop := ∃ l : List (Str × Pos), es = l.map (fun q => .Name q.1 q.2) ∧ xs = l.map (·.1)
theorem NameL.nil : NameL [] [] := ⟨[], rfl, rfl⟩
theorem NameL.cons {es : List Expr} {xs : List Str} {x : Str} {p : Pos} : NameL es xs → NameL (.Name x p :: es) (x :: xs)
  | ⟨l, h, g⟩ => ⟨(x, p) :: l, congrArg (_ :: ·) h, congrArg (_ :: ·) g⟩
theorem put_walk (O : c.Ok) {P oa E} {σ' : S} {s : Shared} {Φ : Unit → Shared → Prop} (p : ∀ h' tk' m', Inv c h' m' P oa σ' → Φ () { s with heap := h', toks := tk' }) : ∀ (l : List (Str × Pos)) {ds : List V} {vs : List Value} {σ : S} {h tk m}, (∀ x ∈ l.map (·.1), Bindable c x) → putAll (l.map (·.1)) ds σ = some σ' → VAll P vs ds → Inv c h m P oa σ →
    wpAny (model c.prog c.w) c.A (assignInOrder ((assignEach (l.map fun q => .Name q.1 q.2) c.env).map (·.2)) vs) Φ E { s with heap := h, toks := tk }
  | [], ds, vs, σ, h, tk, m, hb, hp, r, I => by
    cases r with
    | nil => cases hp; exact wpAny_pure (p _ _ m I)
    | cons => cases hp
  | (x, xp) :: l, ds, vs, σ, h, tk, m, hb, hp, r, I => by
    cases r with
    | nil => cases hp
    | cons r rs =>
      rename_i v vs d ds
      show wpAny _ _ (do holding vs (do standAt xp; bindName c.env x v); assignInOrder ((assignEach (l.map fun q => .Name q.1 q.2) c.env).map (·.2)) vs) _ _ _
      exact wpAny_bind (wpAny_holding (wpAny_bind (wpAny_standAt (wpAny_bindName (store_walk O I r (hb x List.mem_cons_self) fun h' tk' m' I' _ =>
        put_walk O p l (fun y hy => hb y (List.mem_cons_of_mem _ hy)) hp rs I')))))
theorem names_len {env : Env} : ∀ l : List (Str × Pos), (assignEach (l.map fun q => .Name q.1 q.2) env).length = l.length ∧ (assignEach (l.map fun q => .Name q.1 q.2) env).findIdx? (·.1) = none
  | [] => ⟨rfl, rfl⟩
  | (x, xp) :: l => ⟨congrArg (· + 1) (names_len l).1, List.findIdx?_cons.trans (congrArg (Option.map (· + 1)) (names_len l).2)⟩
theorem putAll_len : ∀ {xs : List Str} {ds : List V} {σ σ' : S}, putAll xs ds σ = some σ' → xs.length = ds.length
  | [], [], _, _, _ => rfl
  | x :: xs, d :: ds, _, _, h => by rw [List.length_cons, List.length_cons, putAll_len (xs := xs) (ds := ds) h]
  | [], _ :: _, _, _, h => by cases h
  | _ :: _, [], _, _, h => by cases h
theorem noSwapSole {t : Expr} {e : Expr} {n : Nat} {env : Env} (h : isComp e = false) : swapsWithSole [t] e n env = pure false := noSwap h
theorem sx_unpack (O : c.Ok) {es : List Expr} {xs : List Str} {tp : Pos} {e : Expr} (hn : NameL es xs) (hb : ∀ x ∈ xs, Bindable c x) (hc : isComp e = false) (ht : ∀ env : Env, swappedStores [.Tuple es k tp] e env = pure none)
    (h : EV c X e σ fun d σ₁ => ∃ ds σ', d = .tup ds ∧ putAll xs ds σ₁ = some σ' ∧ Q .next σ') : SX c X (.Assign [.Tuple es k tp] e pos) σ Q := fun s m P oa Φ E I p xx => by
  obtain ⟨l, rfl, rfl⟩ := hn
  refine Assign_Tuple (h s m P oa _ E I (fun v d σ₁ h₁ tk₁ m₁ P₁ I₁ g₁ r₁ q₁ => ?_) xx) (noSwapSole hc) (ht _)
  obtain ⟨ds, σ', rfl, hp, q₁⟩ := q₁
  obtain ⟨ad, ob, vs, n, rfl, pa, ca, da, ra⟩ := r₁.tup_inv
  ·
    obtain ⟨sl, ua⟩ := (I₁.frz _ _ pa).1
    have hT : h₁.IsTuple ad vs := ⟨_, ua, ca, n, da⟩
    have hl := names_len (env := c.env) l
    have hlen := ra.length
    rw [Array.length_toList] at hlen
    refine wpAny_assign_Tuple O.hand hT (by rw [hl.1, hlen, ← putAll_len hp, List.length_map]) hl.2 fun h' he => ?_
    have hk : ∀ b o, h₁.get? b = some o → h'.get? b = some o := fun b o z => he b o (Nat.ne_of_lt (Heap.lt_size z)) z
    exact put_walk O (s := { s with heap := h', toks := tk₁ }) (fun h'' tk'' m'' I'' => p _ _ _ h'' tk'' m'' P₁ oa I'' g₁ .next q₁) l hb hp ra (I₁.keeps hk)
end
-- what the methods do, whatever the slots hold
theorem append_own (l : Addr) (items : Array Value) (n : Nat) (sl : Array (Option Value)) (x : Value) (hsz : items.size ≤ sizeLine) :
    Meets (Builtin.«list.append» ⟨[.ref l, x], []⟩) (fun _ R s => s.heap.get? l = some { cls := .type "list", dict := none, data := .seq items n, slots := sl } ∧ R (.ok (.ret Value.none)) { s with heap := s.heap.update l (Obj.mapSeq fun y => y.push x), toks := s.toks }) :=
  .of_wp fun prog w A R s h => by
    obtain ⟨hp, g, d, tk, os⟩ := s; obtain ⟨hl, h⟩ := h
    have hz' : (items.push x).size ≤ sizeLine + 1 := by rw [Array.size_push]; lia
    wp_walk using (wpAny_updateSeq hl rfl (hz := hsz) (_hz' := hz')); exact ⟨_, rfl, h⟩
theorem insert_own (l : Addr) (items : Array Value) (n : Nat) (sl : Array (Option Value)) (x : Int) (u : Tok) (y : Value) (hc0 : ¬(!Builtin.List.listFitsIndex x) = true) (hsz : items.size ≤ sizeLine) :
    Meets (Builtin.«list.insert» ⟨[.ref l, .int x u, y], []⟩) (fun _ R s => s.heap.get? l = some { cls := .type "list", dict := none, data := .seq items n, slots := sl } ∧ R (.ok (.ret Value.none)) { s with heap := s.heap.update l (Obj.mapSeq fun xs => have k := if x < 0 then (x + ((xs.size : Nat) : Int)).toNat else min x.toNat xs.size; (xs.extract 0 k).push y ++ xs.extract k), toks := s.toks }) :=
  .of_wp fun prog w A R s h => by
    obtain ⟨hp, g, d, tk, os⟩ := s; obtain ⟨hl, h⟩ := h
    have hz' : ((fun xs : Array Value => have k := if x < 0 then (x + ((xs.size : Nat) : Int)).toNat else min x.toNat xs.size; (xs.extract 0 k).push y ++ xs.extract k) items).size ≤ sizeLine + 1 := Nat.le_trans (AutoListH.size_inserted items _ _) (Nat.add_le_add_right hsz 1)
    wp_walk using (wpAny_updateSeq hl rfl (hz := hsz) (_hz' := hz')); exact ⟨_, rfl, h⟩
theorem reverse_own (l : Addr) (items : Array Value) (n : Nat) (sl : Array (Option Value)) (hsz : items.size ≤ sizeLine) :
    Meets (Builtin.«list.reverse» ⟨[.ref l], []⟩) (fun _ R s => s.heap.get? l = some { cls := .type "list", dict := none, data := .seq items n, slots := sl } ∧ R (.ok (.ret Value.none)) { s with heap := s.heap.update l (Obj.mapSeq fun x => x.reverse), toks := s.toks }) :=
  .of_wp fun prog w A R s h => by
    obtain ⟨hp, g, d, tk, os⟩ := s; obtain ⟨hl, h⟩ := h
    have hz' : items.reverse.size ≤ sizeLine + 1 := by rw [Array.size_reverse]; lia
    wp_walk using (wpAny_updateSeq hl rfl (hz := hsz) (_hz' := hz')); exact ⟨_, rfl, h⟩
theorem own_update {h : Heap} {a : Addr} {vs : Array Value} {n : Nat} {sl : Array (Option Value)} (f : Array Value → Array Value) (e : h.get? a = some ⟨.type "list", none, .seq vs n, sl⟩) : OwnAt (h.update a (Obj.mapSeq f)) a (f vs) ∧ Heap.SameBut a h (h.update a (Obj.mapSeq f)) := by
  obtain ⟨n', hd'⟩ := Obj.data_mapSeq (o := ⟨.type "list", none, .seq vs n, sl⟩) (xs := vs) (n := n) rfl f
  have e' := Heap.get?_update_self (Obj.mapSeq f) e (Obj.isFreed_of_seq hd')
  refine ⟨?_, Heap.SameBut.update ..⟩
  have : Obj.mapSeq f ⟨.type "list", none, .seq vs n, sl⟩ = ⟨.type "list", none, .seq (f vs) n', sl⟩ := by
    simp only [Obj.mapSeq] at hd' ⊢
    simp only [Obj.mk.injEq, true_and, and_true]
    exact hd'
  exact ⟨n', sl, by rw [e', this]⟩

section
variable {c : Ctx} {X : Str → Prop} {σ : S} {Q : SPost} {pos : Pos} {k : Nat}
theorem sx_expr {e : Expr} (O : c.Ok) (hc : isComp e = false) (h : EV c X e σ fun _ σ₁ => Q .next σ₁) : SX c X (.Expr e pos) σ Q := fun s m P oa Φ E I p x =>
  wpAny_Expr_any (h s m P oa _ E I (fun v d σ₁ h₁ tk₁ m₁ P₁ I₁ g₁ r₁ q₁ => p _ _ σ₁ _ _ m₁ P₁ oa I₁ g₁ .next q₁) x) (by unfold interactive; rw [O.kind]; rfl) (noSwap hc)

inductive Lth where
  | append | insert | reverse
noncomputable def Lth.name : Lth → Str
  | .append => .ofString "append" | .insert => .ofString "insert" | .reverse => .ofString "reverse"
noncomputable def Lth.id : Lth → String
  | .append => "list.append" | .insert => "list.insert" | .reverse => "list.reverse"
theorem Lth.slot (b : Lth) : Slot "list" b.name b.id := by
  cases b with
  | append => exact PySem.F.slot_list_append
  | insert => exact PySem.F.slot_list_insert
  | reverse => exact PySem.F.slot_list_reverse
theorem Lth.type (b : Lth) : typeOf (.builtin b.id) = pure (.type "method_descriptor") := by
  cases b with
  | append => exact PySem.F.type_list_append
  | insert => exact PySem.F.type_list_insert
  | reverse => exact PySem.F.type_list_reverse
inductive lthR : Lth → List V → List V → (List V → Prop) → Prop
  | append {ds : List V} {d : V} {Q : List V → Prop} (h : ds.length ≤ 1000000) (q : Q (ds ++ [d])) : lthR .append ds [d] Q
  | insert {ds : List V} {i : Int} {d : V} {Q : List V → Prop} (h : 0 ≤ i ∧ i ≤ 1000000 ∧ ds.length ≤ 1000000) (q : Q (ds.take i.toNat ++ d :: ds.drop i.toNat)) : lthR .insert ds [.int i, d] Q
  | reverse {ds : List V} {Q : List V → Prop} (h : ds.length ≤ 1000000) (q : Q ds.reverse) : lthR .reverse ds [] Q
theorem lth_sound (O : c.Ok) {b : Lth} {x : Str} {ds : List V} {args : List V} {vs : List Value} {s : Shared} {m : Str → Option Value} {P : Fz} {oa : Addr} {R : List V → Prop} {Φ : Value → Shared → Prop} {E} (I : Inv c s.heap m P oa σ) (hx : σ.own = some (x, ds)) (r : VAll P vs args) (q : lthR b ds args R)
    (p : ∀ ds' h' tk', Inv c h' m P oa ⟨σ.vars, some (x, ds')⟩ → R ds' → Φ .none { s with heap := h', toks := tk' }) :
    wpAny (model c.prog c.w) c.A (call (.builtin b.id) (.ref oa :: vs)) Φ E s := by
  obtain ⟨_, _, _, _, _, _, its, hl, ra⟩ := I.own x ds hx
  obtain ⟨n, sl, ho⟩ := id hl
  have hlen := ra.length
  rw [Array.length_toList] at hlen
  have hT : s.TypeIs (.ref oa) "list" := hl.isList.typeIs
  cases q with
  | @append _ d _ h q =>
    obtain ⟨v, rfl, k⟩ := r.one_inv
    ·
      have z := own_update (·.push v) ho
      refine call_meets PySem.F.slot_list_append hT PySem.F.entry_list_append (PySem.F.args_list_append_2 _ _) (append_own oa its n sl v (by rw [hlen]; exact Nat.le_trans h (by decide))) ⟨ho, p _ _ _ (I.setOwn hx z.2 z.1 ?_) q⟩
      rw [Array.toList_push]
      exact ra.append (.cons k .nil)
  | @insert _ i d _ h q =>
    obtain ⟨_, v, rfl, k, r'⟩ := r.two_inv
    obtain ⟨t, rfl⟩ := k.int_inv
    ·
        have hi : ¬(!Builtin.List.listFitsIndex i) = true := by
          rw [fitsIndex_of h.1 (by have := h.2.1; lia)]; decide
        have z := own_update (fun xs : Array Value => have k := if i < 0 then (i + ((xs.size : Nat) : Int)).toNat else min i.toNat xs.size; (xs.extract 0 k).push v ++ xs.extract k) ho
        refine call_meets PySem.F.slot_list_insert hT PySem.F.entry_list_insert (PySem.F.args_list_insert_3 _ _ _) (insert_own oa its n sl i t v hi (by rw [hlen]; exact Nat.le_trans h.2.2 (by decide))) ⟨ho, p _ _ _ (I.setOwn hx z.2 z.1 ?_) q⟩
        have h0 : ¬ i < 0 := by have := h.1; lia
        have e : ((fun xs : Array Value => have k := if i < 0 then (i + ((xs.size : Nat) : Int)).toNat else min i.toNat xs.size; (xs.extract 0 k).push v ++ xs.extract k) its).toList = its.toList.take i.toNat ++ v :: its.toList.drop i.toNat := by
          simp only [h0, if_false, Array.toList_append, Array.toList_push, Array.toList_extract]
          rw [List.append_assoc]
          simp only [List.extract_eq_take_drop, List.drop_zero, Nat.sub_zero, List.singleton_append]
          by_cases hle : i.toNat ≤ its.size
          · rw [Nat.min_eq_left hle]
            rw [List.take_of_length_le (l := List.drop i.toNat its.toList)]
            simp
          · have hle' : its.size ≤ i.toNat := by lia
            rw [Nat.min_eq_right hle', List.take_of_length_le (i := i.toNat) (by simpa using hle'), List.take_of_length_le (i := its.size) (by simp), List.drop_of_length_le (i := i.toNat) (by simpa using hle'), List.drop_of_length_le (i := its.size) (by simp)]
            simp
        rw [e]
        exact (ra.take _).append (.cons r' (ra.drop _))
  | reverse h q =>
    obtain rfl := r.nil_inv
    have z := own_update (fun x : Array Value => x.reverse) ho
    refine call_meets PySem.F.slot_list_reverse hT PySem.F.entry_list_reverse (PySem.F.args_list_reverse_1 _) (reverse_own oa its n sl (by rw [hlen]; exact Nat.le_trans h (by decide))) ⟨ho, p _ _ _ (I.setOwn hx z.2 z.1 ?_) q⟩
    simp only [Array.toList_reverse]
    exact ra.reverse
theorem own_dict {s : Shared} {m P oa} {x : Str} {ds} (I : Inv c s.heap m P oa σ) (hx : σ.own = some (x, ds)) : ∀ a, Value.ref oa = .ref a → ∃ ob, s.heap.get? a = some ob ∧ ob.dict = none := fun a e => by
  cases e
  obtain ⟨_, _, _, _, _, _, its, ⟨n, sl, ho⟩, ra⟩ := I.own x ds hx
  exact ⟨_, ho, rfl⟩
/-- x.append(e), x.insert(i, e) -/
theorem sx_lth (O : c.Ok) {b : Lth} {x : Str} {xp apos p₀ : Pos} {e : Expr} {es : List Expr} {ds : List V} (ok : okName x = true) (hx : σ.own = some (x, ds)) (ns : noStars (e :: es) = true) (few : es.length < 20) (hline : (apos.endLine == p₀.line) = true)
    (h : EL c X p₀ (e :: es) σ fun args σ₁ => ∃ ds, σ₁.own = some (x, ds) ∧ lthR b ds args fun ds' => Q .next ⟨σ₁.vars, some (x, ds')⟩) : SX c X (.Expr (.Call (.Attribute (.Name x xp) b.name apos) (e :: es) [] p₀) pos) σ Q := fun s m P oa Φ E I pp xx => by
  have hs : isStar e = false := by simp only [noStars, Bool.and_eq_true, Bool.not_eq_true'] at ns; exact ns.1
  have hp : (backTo p₀ (starEach es c.env)).any (·.1) = false := noStars_plain (by simp only [noStars, Bool.and_eq_true] at ns; exact ns.2)
  refine wpAny_Expr_any ?_ (by unfold interactive; rw [O.kind]; rfl) rfl
  refine wpAny_Call_method_lateS (base_plain rfl) ?_ hline (own_walk O ok hx I ?_)
  · rw [all_plain ns]
    show (true && true && decide ((e :: es).length + 0 + 0 < 30)) = true
    simp only [Bool.and_self, Bool.true_and, decide_eq_true_eq, List.length_cons]
    lia
  · obtain ⟨_, _, _, _, _, _, its, hl, ra⟩ := I.own x ds hx
    refine ⟨"list", b.id, PySem.F.plainAttrs_list, b.slot, b.type, hl.isList.typeIs, own_dict I hx, ?_⟩
    have z := h s m P oa (fun vs s' => wpAny (model c.prog c.w) c.A (call (.builtin b.id) (.ref oa :: vs)) (fun _ => Φ .next) E s') E I (fun vs args σ₂ h₂ tk₂ m₂ P₂ I₂ g₂ r₂ q₂ => by
      obtain ⟨ds, hx, q₂⟩ := q₂
      exact lth_sound O I₂ hx r₂ q₂ fun ds' h' tk' I' q => pp _ _ _ h' tk' m₂ P₂ oa I' g₂ .next q) xx
    exact callWith_method1 z (starEach_more hs) hp
/-- x.reverse() -/
theorem sx_reverse (O : c.Ok) {x : Str} {xp apos p₀ : Pos} {ds : List V} (ok : okName x = true) (hx : σ.own = some (x, ds)) (hline : (apos.endLine == p₀.line) = true) (hz : ds.length ≤ 1000000)
    (q : Q .next ⟨σ.vars, some (x, ds.reverse)⟩) : SX c X (.Expr (.Call (.Attribute (.Name x xp) (.ofString "reverse") apos) [] [] p₀) pos) σ Q := fun s m P oa Φ E I pp xx => by
  refine wpAny_Expr_any ?_ (by unfold interactive; rw [O.kind]; rfl) rfl
  refine wpAny_Call_method_lateS (base_plain rfl) rfl hline (own_walk O ok hx I ?_)
  obtain ⟨_, _, _, _, _, _, its, hl, ra⟩ := I.own x ds hx
  refine ⟨"list", "list.reverse", PySem.F.plainAttrs_list, PySem.F.slot_list_reverse, PySem.F.type_list_reverse, hl.isList.typeIs, own_dict I hx, ?_⟩
  exact callWith_method0 (lth_sound O (b := .reverse) (R := fun ds' => Q .next ⟨σ.vars, some (x, ds')⟩) I hx .nil (.reverse hz q) fun ds' h' tk' I' q => pp _ _ _ h' tk' m P oa I' (Grows.refl P) .next q)

-- x[i] = e
noncomputable def setAt (i : Int) (d : V) (ds : List V) : List V := ds.set (if 0 ≤ i then i.toNat else (i + ds.length).toNat) d
theorem setItem_own {l : Addr} {items : Array Value} {k : Int} {t : Tok} {v : Value} {s : Shared} {Φ : Unit → Shared → Prop} {E} (hl : OwnAt s.heap l items) (j : Nat) (hj : j < items.size) (hk : seqIndex? k items.size = some j) (hfit : Builtin.List.listFitsIndex k = true)
    (hQ : ∀ h', OwnAt h' l (items.setIfInBounds j v) → Heap.SameBut l s.heap h' → Φ () { s with heap := h' }) :
    wpAny (model c.prog c.w) c.A (setItem (.ref l) (.int k t) v) Φ E s := by
  obtain ⟨n, sl, ho⟩ := id hl
  unfold setItem
  try with_reducible refine wpAny_holding ?_
  first | refine wpAny_bind (wpAny_pure ?_) | skip
  refine wpAny_bind (wpAny_sequenceKey hl.isList.typeIs (by decide) ?_)
  refine wpAny_bind (wpAny_callSpecial?_slot (name := Str.ofString "__setitem__") hl.isList.typeIs slot_list_setitem
    (wpAny_call_entry slot_list_setitem hl.isList.typeIs entry_list_setitem ?_ (args_list_setitem _ _ _)))
  show wpAny _ _ (Builtin.List.listSubscript? (.int k t) >>= _) _ _ s
  refine wpAny_bind (wpAny_listSubscript_int hfit ?_)
  have hx' : items[j]? = some items[j] := Array.getElem?_eq_getElem hj
  have z := own_update (·.setIfInBounds j v) ho
  cases k with
  | ofNat i =>
    have hij : i = j := by
      unfold seqIndex? at hk
      simp only [Int.ofNat_eq_natCast] at hk
      have h0 : ¬ ((i : Int) < 0) := by lia
      rw [if_neg h0] at hk
      split at hk
      · cases hk; lia
      · cases hk
    subst hij
    show wpAny _ _ ((seqItemAt l i >>= fun r => pure (r.map (i, ·))) >>= _) _ _ s
    refine wpAny_bind (wpAny_bind (wpAny_seqItemAt ho rfl (wpAny_pure ?_)))
    rw [hx']
    show wpAny _ _ (setSeqItemAt l i v >>= _) _ _ s
    refine wpAny_bind (wpAny_setSeqItemAt ho rfl ?_)
    first
      | exact wpAny_bind (wpAny_pure (wpAny_pure ⟨.none, rfl, wpAny_pure (hQ _ z.1 z.2)⟩))
      | exact wpAny_pure ⟨.none, rfl, wpAny_pure (hQ _ z.1 z.2)⟩
  | negSucc i =>
    show wpAny _ _ ((Builtin.List.listItems (.ref l) >>= fun xs => pure ((seqIndex? (Int.negSucc i) xs.size).bind fun i => xs[i]?.map (i, ·))) >>= _) _ _ s
    refine wpAny_bind (wpAny_bind ?_)
    show wpAny _ _ (seqItems? (.ref l) >>= _) _ _ s
    refine wpAny_bind (wpAny_seqItems ho rfl (wpAny_pure (wpAny_pure ?_)))
    rw [hk]
    simp only [Option.bind_some, hx', Option.map_some]
    refine wpAny_bind (wpAny_setSeqItemAt ho rfl ?_)
    first
      | exact wpAny_bind (wpAny_pure (wpAny_pure ⟨.none, rfl, wpAny_pure (hQ _ z.1 z.2)⟩))
      | exact wpAny_pure ⟨.none, rfl, wpAny_pure (hQ _ z.1 z.2)⟩
theorem sx_setitem (O : c.Ok) {x : Str} {xp p₀ : Pos} {i e : Expr} (ok : okName x = true) (hc : isComp e = false)
    (h : EV c X e σ fun d σ₁ => (∃ ds, σ₁.own = some (x, ds)) ∧ EV c X i σ₁ fun iv σ₂ => ∃ k ds, iv = .int k ∧ σ₂.own = some (x, ds) ∧ ds.length ≤ 1000000 ∧ -(ds.length : Int) ≤ k ∧ k < ds.length ∧ Q .next ⟨σ₂.vars, some (x, setAt k d ds)⟩) :
    SX c X (.Assign [.Subscript (.Name x xp) i p₀] e pos) σ Q := fun s m P oa Φ E I pp xx => by
  refine wpAny_Assign_Subscript (h s m P oa _ E I (fun v d σ₁ h₁ tk₁ m₁ P₁ I₁ g₁ r₁ q₁ => ?_) xx) (noSwap hc)
  obtain ⟨⟨ds₀, hx₀⟩, q₁⟩ := q₁
  refine own_walk O (s := { s with heap := h₁, toks := tk₁ }) ok hx₀ I₁ (q₁ _ m₁ P₁ oa _ E I₁ (fun w iv σ₂ h₂ tk₂ m₂ P₂ I₂ g₂ r₂ q₂ => ?_) xx)
  obtain ⟨k, ds, rfl, hx, hz, b1, b2, q₂⟩ := q₂
  obtain ⟨_, rfl⟩ := r₂.int_inv
  obtain ⟨_, _, _, _, _, _, its, hl, ra⟩ := I₂.own x ds hx
  have hlen := ra.length
  rw [Array.length_toList] at hlen
  refine setItem_own (s := { s with heap := h₂, toks := tk₂ }) hl (if 0 ≤ k then k.toNat else (k + ds.length).toNat) ?_ ?_ ?_ fun h' ho hs => ?_
  · split <;> lia
  · rw [hlen]
    by_cases h0 : 0 ≤ k
    · rw [if_pos h0]; exact seqIndex_pos h0 b2
    · rw [if_neg h0]; exact seqIndex_neg (by lia) (by lia)
  · by_cases h0 : 0 ≤ k
    · exact fitsIndex_of h0 (by lia)
    · exact fitsIndex_neg (by lia) (by lia)
  · refine pp _ _ _ h' tk₂ m₂ P₂ oa (I₂.setOwn hx hs ho ?_) (g₁.trans g₂) .next q₂
    rw [Array.toList_setIfInBounds]
    exact ra.set _ (r₁.mono g₂)
end
noncomputable abbrev NoX : Str → Prop := fun _ => False
theorem exp_no {c : Ctx} {s : Shared} {E} : ExP c NoX s E := fun _ _ _ _ _ x => x.elim

/-- a place that the frame does not look at -/
noncomputable def Alien (c : Ctx) (P : Fz) (oa : Addr) (σ : S) (a : Addr) : Prop :=
  c.base.get? a = none ∧ Free c.hc a ∧ (∀ hi, c.hi = some hi → ∀ o vs, hi.get? a = some o → o.data ≠ .fields vs) ∧ (∀ o, ¬ P a o) ∧ a ≠ c.env.locals ∧ (∀ y b, c.env.cells.lookup y = some b → b ≠ a) ∧ (∀ y ds, σ.own = some (y, ds) → oa ≠ a) ∧ ∀ e ∈ c.fr, ∀ L, e.frame = some L → L ≠ a

theorem frames_at {base h : Heap} : ∀ {l : List Env}, h.FunFrames base l → ∀ e ∈ l, ∀ L, e.frame = some L → ∃ o, h.get? L = some o ∧ NF o
  | [], _ => fun e q => nomatch q
  | env :: rest, ⟨_, ⟨L, o, hf, _, ho, hd⟩, hr⟩ => fun e q L' hL => by
    rcases List.mem_cons.mp q with rfl | q
    · rw [hf] at hL; cases hL; exact ⟨o, ho, hd⟩
    · exact frames_at hr e q L' hL
theorem funFrames_but {base h h' : Heap} {a : Addr} (k : ∀ b o, b ≠ a → h.get? b = some o → NF o → ∃ o', h'.get? b = some o' ∧ NF o') : ∀ {l : List Env}, (∀ e ∈ l, ∀ L, e.frame = some L → L ≠ a) → h.FunFrames base l → h'.FunFrames base l
  | [], _, _ => trivial
  | env :: rest, n, ⟨hk, ⟨L, o, hf, hn, ho, hd⟩, hr⟩ => by
    obtain ⟨o', ho', hd'⟩ := k L o (n env List.mem_cons_self L hf) ho hd
    exact ⟨hk, ⟨L, o', hf, hn, ho', hd'⟩, funFrames_but k (fun e q => n e (List.mem_cons_of_mem _ q)) hr⟩
/-- a heap that has more, and the old up to slots, but for a place that nobody looks at -/
theorem Inv.trans {c : Ctx} {h h' : Heap} {m : Str → Option Value} {P P' : Fz} {oa : Addr} {σ : S} (I : Inv c h m P oa σ) {a : Addr} (al : Alien c P oa σ a) (st : c.base.StaysIn h')
    (up : ∀ b o, b ≠ a → h.get? b = some o → NF o → ∃ sl, h'.get? b = some { o with slots := sl }) (ik : ∀ hi, c.hi = some hi → FK hi h') (ff : h'.FunFrames c.base c.fr) (gr : Grows P P')
    (nw : ∀ b o, P' b o → P b o ∨ (Free h b ∧ NF o ∧ Up h' b o)) : Inv c h' m P' oa σ := by
  obtain ⟨a1, a2, a3, a4, a5, a6, a7, _⟩ := al
  have atm : ∀ {y w}, At c h m y w → At c h' m y w := fun {y w} q => by
    rcases q with ⟨q1, q2⟩ | ⟨q1, b, q2, ob, q3, q4⟩
    · exact .inl ⟨q1, q2⟩
    · obtain ⟨sl, e⟩ := up b ob (a6 y b q2) q3 (nf_cell q4)
      exact .inr ⟨q1, b, q2, _, e, q4⟩
  have upP : ∀ b o, b ≠ a → Up h b o → NF o → Up h' b o := fun b o n ⟨sl, e⟩ nf => by
    obtain ⟨sl', e'⟩ := up b _ n e nf
    exact ⟨sl', e'⟩
  refine ⟨st, fun b o e n => ?_, ik, ff, ?_, fun b o q => ?_, fun b o q => ?_, fun b o q => gr _ _ (I.old b o q), fun y b q => ?_, fun y d q => ?_, fun y ds q => ?_⟩
  · obtain ⟨sl, e1⟩ := I.upc b o e n
    have hb : b ≠ a := fun w => a2 o (w ▸ e) n
    obtain ⟨sl', e2⟩ := up b _ hb e1 n
    exact ⟨sl', e2⟩
  · obtain ⟨oL, es, ep, hL, hd, r⟩ := I.ns
    obtain ⟨sl, e⟩ := up _ oL (Ne.symm a5) hL (nf_dict hd)
    exact ⟨_, es, ep, e, hd, r⟩
  · rcases nw b o q with q | ⟨q1, q2, q3⟩
    · obtain ⟨u, n, l⟩ := I.frz b o q; exact ⟨upP b o (fun w => a4 o (w ▸ q)) u n, n, l⟩
    · obtain ⟨oL, _, _, hL, hd, _⟩ := I.ns
      exact ⟨q3, q2, q1.ne hL (nf_dict hd)⟩
  · rcases nw b o q with q | ⟨q1, _, _⟩
    · exact I.src b o q
    · exact .inr (q1.back I.upc)
  · obtain ⟨e1, e2, v₀, ob, e3, e4⟩ := I.cel y b q
    obtain ⟨sl, e⟩ := up b ob (a6 y b q) e3 (nf_cell e4)
    refine ⟨e1, fun o z => ?_, v₀, _, e, e4⟩
    rcases nw b o z with z | ⟨z, _, _⟩
    · exact e2 o z
    · exact z _ e3 (nf_cell e4)
  · obtain ⟨v, f1, f2⟩ := I.vars y d q
    exact ⟨v, atm f1, f2.mono gr⟩
  · obtain ⟨e1, e2, e3, e4, e5, e6, vs, ⟨n, sl, e7⟩, e8⟩ := I.own y ds q
    obtain ⟨sl', e⟩ := up oa _ (a7 y ds q) e7 (nf_seq rfl)
    refine ⟨e1, e2, e3, fun o z => ?_, e5, atm e6, vs, ⟨n, sl', e⟩, e8.mono gr⟩
    rcases nw oa o z with z | ⟨z, _, _⟩
    · exact e4 o z
    · exact z _ e7 (nf_seq rfl)
/-- the place itself is written -/
theorem Inv.alien {c : Ctx} {h h' : Heap} {m : Str → Option Value} {P : Fz} {oa : Addr} {σ : S} (I : Inv c h m P oa σ) {a : Addr} (al : Alien c P oa σ a) (hs : Heap.ExtBut a h h') : Inv c h' m P oa σ := by
  refine I.trans al (fun b o e => hs b o (fun w => by rw [w, al.1] at e; cases e) (I.stay b o e)) (fun b o n e _ => ⟨o.slots, hs b o n e⟩) (fun hi e b o vs q f => ?_) (funFrames_but (fun b o n e nf => ⟨o, hs b o n e, nf⟩) al.2.2.2.2.2.2.2 I.ff) (Grows.refl P) (fun _ _ q => .inl q)
  have : b ≠ a := fun w => al.2.2.1 hi e o vs (w ▸ q) f
  exact hs b o this (I.itk hi e b o vs q f)
/-- a place of the iterator's kind is nobody's -/
theorem Inv.alien_iter {c : Ctx} {h : Heap} {m : Str → Option Value} {P : Fz} {oa : Addr} {σ : S} (I : Inv c h m P oa σ) {a : Addr} {o : Obj} {vs : Array Value} (e : h.get? a = some o) (f : o.data = .fields vs) (hb : c.base.get? a = none) (hi : ∀ hi, c.hi = some hi → ∀ o vs, hi.get? a = some o → o.data ≠ .fields vs) : Alien c P oa σ a := by
  refine ⟨hb, fun x q n => ?_, hi, fun x q => ?_, fun w => ?_, fun y b q w => ?_, fun y ds q w => ?_, fun en q L z w => ?_⟩
  · obtain ⟨sl, e'⟩ := I.upc a x q n
    rw [e] at e'; cases e'; exact n vs f
  · obtain ⟨⟨sl, e'⟩, n, _⟩ := I.frz a x q
    rw [e] at e'; cases e'; exact n vs f
  · exact I.nfL o (w ▸ e) vs f
  · exact I.nfC q o (w ▸ e) vs f
  · obtain ⟨_, _, _, _, _, _, ws, ⟨n, sl, ho⟩, _⟩ := I.own y ds q
    rw [w, e] at ho; cases ho; cases f
  · obtain ⟨o', e', n⟩ := frames_at I.ff en q L z
    rw [w, e] at e'; cases e'; exact n vs f

/-- an iterator that will give these -/
noncomputable def Itr (c : Ctx) (P : Fz) (h : Heap) (a : Addr) (ds : List V) (i : Nat) : Prop :=
  c.base.get? a = none ∧ (∀ hi, c.hi = some hi → ∀ o vs, hi.get? a = some o → o.data ≠ .fields vs) ∧
  ((∃ l o vs n, P l o ∧ o.cls = .type "list" ∧ o.data = .seq vs n ∧ VAll P vs.toList ds ∧ h.IsListIter a l i) ∨
   (∃ b k, IsRangeIter h a (b + i * k) ((ds.length : Int) - i) k ∧ ds = (List.range ds.length).map fun j : Nat => V.int (b + j * k)))
theorem Itr.data {c : Ctx} {P : Fz} {h : Heap} {a : Addr} {ds : List V} {i : Nat} (t : Itr c P h a ds i) : ∃ o vs, h.get? a = some o ∧ o.data = .fields vs := by
  obtain ⟨_, _, ⟨l, o, vs, n, _, _, _, _, ⟨oi, h1, _, h2⟩⟩ | ⟨b, k, h1, _⟩⟩ := t
  · exact ⟨oi, _, h1, h2⟩
  · exact ⟨_, _, h1, rfl⟩
theorem Itr.keep {c : Ctx} {P P' : Fz} {h h' : Heap} {a : Addr} {ds : List V} {i : Nat} (t : Itr c P h a ds i) (g : Grows P P') (k : FK h h') : Itr c P' h' a ds i := by
  obtain ⟨t1, t2, t3⟩ := t
  refine ⟨t1, t2, ?_⟩
  rcases t3 with ⟨l, o, vs, n, p, c1, d1, r, ⟨oi, h1, h2, h3⟩⟩ | ⟨b, kk, h1, h2⟩
  · exact .inl ⟨l, o, vs, n, g _ _ p, c1, d1, r.mono g, oi, k _ _ _ h1 h3, h2, h3⟩
  · exact .inr ⟨b, kk, k _ _ _ h1 rfl, h2⟩

section
variable {c : Ctx} {X : Str → Prop} {σ : S} {Q : SPost} {pos : Pos} {k : Nat}
theorem next_walk (O : c.Ok) {s : Shared} {m : Str → Option Value} {P : Fz} {oa : Addr} {a : Addr} {ds : List V} {i : Nat} {Φ : Option Value → Shared → Prop} {E} (I : Inv c s.heap m P oa σ) (t : Itr c P s.heap a ds i)
    (hsome : ∀ v d h' tk', ds[i]? = some d → VIn P v d → Inv c h' m P oa σ → Itr c P h' a ds (i + 1) → Heap.SameBut a s.heap h' → Φ (some v) { s with heap := h', toks := tk' })
    (hnone : ∀ h' tk', ds[i]? = none → Inv c h' m P oa σ → Heap.ExtBut a s.heap h' → Φ none { s with heap := h', toks := tk' }) : wpAny (model c.prog c.w) c.A (pyNext (.ref a)) Φ E s := by
  obtain ⟨oi, vi, ei, fi⟩ := t.data
  have al := I.alien_iter ei fi t.1 t.2.1
  obtain ⟨t1, t2, ⟨l, o, vs, n, p, c1, d1, r, hit⟩ | ⟨b, kk, hit, hds⟩⟩ := t
  · obtain ⟨sl, ul⟩ := (I.frz _ _ p).1
    have hl : s.heap.IsList l vs := ⟨_, ul, c1, n, d1⟩
    cases hq : ds[i]? with
    | some d =>
      obtain ⟨v, hv, rv⟩ := r.get hq
      refine wpAny_pyNext_list_item hit hl (by simpa using hv) fun h' hi' hs => ?_
      have I' := I.alien al hs.extBut
      exact hsome v d h' _ hq rv I' ⟨t1, t2, .inl ⟨l, o, vs, n, p, c1, d1, r, hi'⟩⟩ hs
    | none =>
      have hn : vs[i]? = none := by
        have := List.getElem?_eq_none_iff.mp hq
        rw [← r.length, Array.length_toList] at this
        exact Array.getElem?_eq_none this
      exact wpAny_pyNext_list_end O.hand hit hl hn fun h' hs => hnone h' _ hq (I.alien al hs) hs
  · cases hq : ds[i]? with
    | some d =>
      have hi := (List.getElem?_eq_some_iff.mp hq).1
      refine wpAny_pyNext_range_item hit (by lia) fun h' hi' hs => ?_
      have I' := I.alien al hs.extBut
      refine hsome _ d h' _ hq ?_ I' ⟨t1, t2, .inr ⟨b, kk, ?_, hds⟩⟩ hs
      · rw [hds] at hq
        rw [List.getElem?_map, List.getElem?_range hi] at hq
        cases hq
        exact .int _ _
      · have e1 : b + (i : Int) * kk + kk = b + ((i + 1 : Nat) : Int) * kk := by
          rw [Int.natCast_add, Int.add_mul]; simp [Int.add_assoc]
        have e2 : (ds.length : Int) - (i : Int) - 1 = (ds.length : Int) - ((i + 1 : Nat) : Int) := by lia
        rw [e1, e2] at hi'
        exact hi'
    | none =>
      have := List.getElem?_eq_none_iff.mp hq
      exact wpAny_pyNext_range_end O.hand hit (by lia) fun h' hs => hnone h' _ hq (I.alien al hs) hs

/-- what a for clause walks through -/
noncomputable def IT (c : Ctx) (X : Str → Prop) (iter : Expr) (σ : S) (J : List V → S → Prop) : Prop :=
  ∀ (s : Shared) m P oa Φ E, Inv c s.heap m P oa σ → (∀ a ds σ' h' tk' m' P', Inv c h' m' P' oa σ' → Grows P P' → Itr c P' h' a ds 0 → J ds σ' → Φ (.ref a) { s with heap := h', toks := tk' }) → ExP c X s E →
    wpAny (model c.prog c.w) c.A (eval iter c.env) (fun x s₁ => wpAny (model c.prog c.w) c.A (pyIter x) Φ E s₁) E s
theorem Inv.news {h : Heap} {m P oa} (I : Inv c h m P oa σ) : c.base.get? h.objs.size = none ∧ ∀ hi, c.hi = some hi → ∀ o vs, hi.get? h.objs.size = some o → o.data ≠ .fields vs := by
  refine ⟨I.fresh.2.1, fun hi e o vs q f => ?_⟩
  have := I.itk hi e _ o vs q f
  exact absurd (Heap.lt_size this) (Nat.lt_irrefl _)
theorem noFold {e : Expr} {env : Env} (h : isSet e = false) : ∀ x, foldedSetIterable e env x = pure x := fun x => by
  cases e <;> first | rfl | exact tf h
theorem it_list {e : Expr} {J : List V → S → Prop} (h : EV c X e σ fun d σ₁ => ∃ l, d = .lst l ∧ J l σ₁) : IT c X e σ J := fun s m P oa Φ E I p x =>
  h s m P oa _ E I (fun v d σ₁ h₁ tk₁ m₁ P₁ I₁ g₁ r₁ q₁ => by
    obtain ⟨l, rfl, q₁⟩ := q₁
    obtain ⟨ad, ob, vs, n, rfl, pa, ca, da, ra⟩ := r₁.lst_inv
    ·
      obtain ⟨sl, ua⟩ := (I₁.frz _ _ pa).1
      have hL : h₁.IsList ad vs := ⟨_, ua, ca, n, da⟩
      refine wpAny_pyIter_list (s := { s with heap := h₁, toks := tk₁ }) hL ?_
      exact p _ l σ₁ _ _ m₁ P₁ (I₁.pushAny _) g₁ ⟨I₁.news.1, I₁.news.2, .inl ⟨ad, ob, vs, n, pa, ca, da, ra, _, Heap.get?_push_size _ rfl, rfl, rfl⟩⟩ q₁) x
inductive rangeArgs : List V → Int → Int → Int → Prop
  | one {n : Int} : rangeArgs [.int n] 0 n 1
  | two {a b : Int} : rangeArgs [.int a, .int b] a b 1
  | three {a b k : Int} : rangeArgs [.int a, .int b, .int k] a b k
noncomputable def rangeOk (a b k : Int) : Bool := -(2 ^ 40) < a && a < 2 ^ 40 && -(2 ^ 40) < b && b < 2 ^ 40 && 0 < k && k < 2 ^ 40
noncomputable def rangeL (a b k : Int) : List V := (List.range (if a < b then (b - a - 1) / k + 1 else 0).toNat).map fun j : Nat => V.int (a + j * k)
theorem range_size {a b k : Int} (h : rangeOk a b k = true) : Builtin.Range.rangeSize a b k = ((rangeL a b k).length : Int) ∧ Builtin.Range.small a b k = true := by
  simp only [rangeOk, Bool.and_eq_true, decide_eq_true_eq] at h
  obtain ⟨⟨⟨⟨⟨h1, h2⟩, h3⟩, h4⟩, h5⟩, h6⟩ := h
  have e : Builtin.Range.rangeSize a b k = if a < b then (b - a - 1) / k + 1 else 0 := by
    unfold Builtin.Range.rangeSize; rw [if_pos (show k > 0 by lia)]
  have n0 : 0 ≤ (if a < b then (b - a - 1) / k + 1 else 0) ∧ (if a < b then (b - a - 1) / k + 1 else 0) < 2 ^ 42 := by
    split
    · have d0 : 0 ≤ (b - a - 1) / k := Int.ediv_nonneg (by lia) (by lia)
      have d1 : (b - a - 1) / k ≤ b - a - 1 := Int.ediv_le_self _ (by lia)
      lia
    · lia
  refine ⟨?_, ?_⟩
  · rw [e]; unfold rangeL; rw [List.length_map, List.length_range]; lia
  · unfold Builtin.Range.small
    rw [e]
    generalize (if a < b then (b - a - 1) / k + 1 else 0) = n at n0
    have f : ∀ x : Int, -(2 ^ 43) < x → x < 2 ^ 43 → Builtin.Range.rangeFitsLong x = true := fun x p q => by
      unfold Builtin.Range.rangeFitsLong
      simp only [Bool.and_eq_true, decide_eq_true_eq]
      lia
    rw [f a (by lia) (by lia), f b (by lia) (by lia), f k (by lia) (by lia), f n (by lia) (by lia), if_pos (show k > 0 by lia), f (b + (k - 1)) (by lia) (by lia)]
    simp
theorem it_range (O : c.Ok) {p : Pos} {e : Expr} {es : List Expr} {J : List V → S → Prop} (ns : noStars (e :: es) = true) (hk : c.env.kindOf (.ofString "range") = some .globalImplicit) (hg : nsIn c.K mainGlobals (.ofString "range") = some none)
    (h : EL c X pos (e :: es) σ fun ds σ₁ => ∃ a b k, rangeArgs ds a b k ∧ rangeOk a b k = true ∧ J (rangeL a b k) σ₁) : IT c X (.Call (.Name (.ofString "range") p) (e :: es) [] pos) σ J := fun s m P oa Φ E I pp x => by
  have hs : isStar e = false := by simp only [noStars, Bool.and_eq_true, Bool.not_eq_true'] at ns; exact ns.1
  have hp : (backTo pos (starEach es c.env)).any (·.1) = false := noStars_plain (by simp only [noStars, Bool.and_eq_true] at ns; exact ns.2)
  refine Call_Name rfl (glob_B O (by decide +kernel) I.stay hk hg (show bootBuiltins (.ofString "range") = some (.type "range") by decide +kernel) (by decide +kernel) ?_)
  refine PyProof.Rows.callWith_type1 (h s m P oa _ E I (fun vs ds σ₁ h₁ tk₁ m₁ P₁ I₁ g₁ r₁ q₁ => ?_) x) (starEach_more hs) hp
  obtain ⟨a, b, k, ha, hok, q₁⟩ := q₁
  obtain ⟨z1, z2⟩ := range_size hok
  have fin : ∀ t u v tk, wpAny (model c.prog c.w) c.A (pyIter (.ref h₁.objs.size)) Φ E { s with heap := h₁.push { cls := .type "range", data := .fields #[.int a t, .int b u, .int k v] }, toks := tk } := fun t u v tk => by
    have I₂ := I₁.pushAny { cls := .type "range", data := .fields #[.int a t, .int b u, .int k v] }
    refine wpAny_pyIter_range (s := { s with heap := h₁.push { cls := .type "range", data := .fields #[.int a t, .int b u, .int k v] }, toks := tk }) (IsRange.new h₁ a b k t u v) z2 ?_
    refine pp _ _ σ₁ _ _ m₁ P₁ (I₂.pushAny _) g₁ ⟨I₂.news.1, I₂.news.2, .inr ⟨a, k, ?_, ?_⟩⟩ q₁
    · have := Heap.get?_push_size (h₁.push { cls := .type "range", data := .fields #[.int a t, .int b u, .int k v] }) (o := { cls := .type "range_iterator", data := .fields #[rawInt a, rawInt (Builtin.Range.rangeSize a b k), rawInt k] }) rfl
      rw [IsRangeIter, this, z1]; simp
    · conv => lhs; unfold rangeL
      rw [show (rangeL a b k).length = (if a < b then (b - a - 1) / k + 1 else 0).toNat by unfold rangeL; simp]
  cases ha with
  | one =>
    obtain ⟨_, rfl⟩ := r₁.int_inv; exact PySem.call_range_1 (fin _ _ _ _)
  | two =>
    obtain ⟨_, _, rfl, y1, y2⟩ := r₁.two_inv; obtain ⟨_, _, rfl, rfl⟩ := y1.int2 y2; exact PySem.call_range_2 (fin _ _ _ _)
  | three =>
    obtain ⟨_, _, rfl, y1, y0⟩ := r₁.cons_inv
    obtain ⟨_, _, rfl, y2, y3⟩ := y0.two_inv
    obtain ⟨_, rfl⟩ := y1.int_inv
    obtain ⟨_, _, rfl, rfl⟩ := y2.int2 y3
    ·
          have hk0 : 0 < k ∧ k < 2 ^ 40 := by simp only [rangeOk, Bool.and_eq_true, decide_eq_true_eq] at hok; exact ⟨hok.1.2, hok.2⟩
          exact call_range_3 (by lia) (fin _ _ _ _) (.inl (noPylong (by lia) (by lia)))

-- loops
theorem sx_while {test : Expr} {body : List Stmt} (J : Nat → S → Prop)
    (turn : ∀ n σ, J n σ → EB c NoX test σ fun b σ₁ => if b = true then SS c NoX body σ₁ (fun f σ₂ => match f with | .next => ∃ m, m < n ∧ J m σ₂ | .cont => ∃ m, m < n ∧ J m σ₂ | .brk => Q .next σ₂ | .ret v => Q (.ret v) σ₂) else Q .next σ₁)
    (n : Nat) (h : J n σ) : SX c X (.While test body [] pos) σ Q := fun s m P oa Φ E I p x => by
  refine wpAny_While (codeAny_whileLoop (fun n s' => ∃ h' tk' m' P' oa' σ', s' = { s with heap := h', toks := tk' } ∧ Inv c h' m' P' oa' σ' ∧ Grows P P' ∧ J n σ') ?_ n ⟨s.heap, s.toks, m, P, oa, σ, rfl, I, Grows.refl P, h⟩)
  rintro n s' ⟨h₁, tk₁, m₁, P₁, oa₁, σ₁, rfl, I₁, g₁, j₁⟩
  refine turn n σ₁ j₁ _ m₁ P₁ oa₁ _ _ I₁ (fun b σ₂ h₂ tk₂ m₂ P₂ I₂ g₂ q₂ => ?_) exp_no
  cases b with
  | false =>
    refine wpAny_execs_nil ?_
    exact p _ _ σ₂ h₂ tk₂ m₂ P₂ oa₁ I₂ (g₁.trans g₂) .next q₂
  | true =>
    refine q₂ _ m₂ P₂ oa₁ _ _ I₂ (fun f f' σ₃ h₃ tk₃ m₃ P₃ oa₃ I₃ g₃ r₃ q₃ => ?_) exp_no
    cases r₃ with
    | next => obtain ⟨k, hk, q₃⟩ := q₃; exact ⟨k, hk, h₃, tk₃, m₃, P₃, oa₃, σ₃, rfl, I₃, (g₁.trans g₂).trans g₃, q₃⟩
    | cont => obtain ⟨k, hk, q₃⟩ := q₃; exact ⟨k, hk, h₃, tk₃, m₃, P₃, oa₃, σ₃, rfl, I₃, (g₁.trans g₂).trans g₃, q₃⟩
    | brk => exact p _ _ σ₃ h₃ tk₃ m₃ P₃ oa₃ I₃ ((g₁.trans g₂).trans g₃) .next q₃
    | ret r => exact p _ _ σ₃ h₃ tk₃ m₃ P₃ oa₃ I₃ ((g₁.trans g₂).trans g₃) (.ret r) q₃
theorem sx_for (O : c.Ok) {x : Str} {xp : Pos} {iter : Expr} {body : List Stmt} (hx : Bindable c x) (hs : isSet iter = false)
    (h : IT c X iter σ fun ds σ₁ => ∃ J : Nat → S → Prop, J 0 σ₁ ∧
      (∀ hh i d σ₂, ds[i]? = some d → J i σ₂ → SS (c.hold hh) NoX body (σ₂.put x d) (fun f σ₃ => match f with | .next => J (i + 1) σ₃ | .cont => J (i + 1) σ₃ | .brk => Q .next σ₃ | .ret v => Q (.ret v) σ₃)) ∧
      ∀ σ₂, J ds.length σ₂ → Q .next σ₂) : SX c X (.For (.Name x xp) iter body [] pos) σ Q := fun s m P oa Φ E I p xx => by
  refine wpAny_For (h s m P oa _ E I (fun a ds σ₁ h₁ tk₁ m₁ P₁ I₁ g₁ t₁ q₁ => ?_) xx) (noFold hs)
  obtain ⟨J, j0, turn, fin⟩ := q₁
  refine codeAny_forLoop (fun n s' => ∃ h' tk' m' P' oa' σ' i, s' = { s with heap := h', toks := tk' } ∧ Inv c h' m' P' oa' σ' ∧ Grows P P' ∧ Itr c P' h' a ds i ∧ J i σ' ∧ i ≤ ds.length ∧ n = ds.length - i) ?_ _ ⟨h₁, tk₁, m₁, P₁, oa, σ₁, 0, rfl, I₁, g₁, t₁, j0, Nat.zero_le _, rfl⟩
  rintro n s' ⟨h₂, tk₂, m₂, P₂, oa₂, σ₂, i, rfl, I₂, g₂, t₂, j₂, hi, rfl⟩
  refine next_walk O (s := { s with heap := h₂, toks := tk₂ }) I₂ t₂ (fun v d h₃ tk₃ hd r₃ I₃ t₃ _ => ?_) (fun h₃ tk₃ hn I₃ _ => ?_)
  · have hlt := (List.getElem?_eq_some_iff.mp hd).1
    refine wpAny_assign_Name (store_walk O (s := { s with heap := h₃, toks := tk₃ }) I₃ r₃ hx fun h₄ tk₄ m₄ I₄ fk => ?_)
    refine turn h₄ i d σ₂ hd j₂ _ m₄ P₂ oa₂ _ _ I₄.hold (fun f f' σ₅ h₅ tk₅ m₅ P₅ oa₅ I₅ g₅ r₅ q₅ => ?_) exp_no
    have I₆ := I₄.unhold I₅
    have k₅ : FK h₄ h₅ := I₅.itk h₄ rfl
    have t₅ := (t₃.keep (Grows.refl _) fk).keep g₅ k₅
    cases r₅ with
    | next => exact ⟨_, by lia, h₅, tk₅, m₅, P₅, oa₅, σ₅, i + 1, rfl, I₆, g₂.trans g₅, t₅, q₅, hlt, rfl⟩
    | cont => exact ⟨_, by lia, h₅, tk₅, m₅, P₅, oa₅, σ₅, i + 1, rfl, I₆, g₂.trans g₅, t₅, q₅, hlt, rfl⟩
    | brk => exact p _ _ σ₅ h₅ tk₅ m₅ P₅ oa₅ I₆ (g₂.trans g₅) .next q₅
    | ret r => exact p _ _ σ₅ h₅ tk₅ m₅ P₅ oa₅ I₆ (g₂.trans g₅) (.ret r) q₅
  · have := List.getElem?_eq_none_iff.mp hn
    have e : i = ds.length := by lia
    subst e
    exact wpAny_execs_nil (p _ _ σ₂ h₃ tk₃ m₂ P₂ oa₂ I₃ g₂ .next (fin σ₂ j₂))
end
/-- a heap less one place -/
noncomputable def dropAt (h : Heap) (C : Addr) : Heap := { h with objs := h.objs.setIfInBounds C { cls := .none, data := .freed } }
theorem dropAt_self (h : Heap) (C : Addr) : (dropAt h C).get? C = none := by
  unfold dropAt Heap.get?
  simp only [Array.getElem?_setIfInBounds]
  by_cases w : C < h.objs.size
  · simp [w]
  · simp [w]
theorem dropAt_ne (h : Heap) {C b : Addr} (n : b ≠ C) : (dropAt h C).get? b = h.get? b := by
  unfold dropAt Heap.get?
  rw [Array.getElem?_setIfInBounds_ne (Ne.symm n)]
/-- the frame of a comprehension -/
noncomputable def Ctx.inn (c : Ctx) (scope : Scope) (cl : List (Str × Addr)) (C : Addr) (h : Heap) (P : Fz) : Ctx :=
  { c with env := compEnvC scope cl C c.env, hc := dropAt h C, P₀ := P, hi := some h }
noncomputable def inS (cl : List (Str × Addr)) (x : Str) (d : V) (σ : S) : S := ⟨setV x d (σ.vars.filter fun p => (cl.lookup p.1).isSome), none⟩
theorem filter_lookup {α : Type} (f : Str → Bool) : ∀ (l : List (Str × α)) (y : Str), (l.filter fun p => f p.1).lookup y = if f y = true then l.lookup y else none
  | [], y => by simp
  | (z, e) :: r, y => by
    have ih := filter_lookup f r y
    by_cases hy : y = z
    · subst hy
      cases hf : f y with
      | true => simp [List.filter_cons, hf]
      | false => simp only [List.filter_cons, hf, Bool.false_eq_true, if_false, ih]
    · cases hf : f z with
      | true => simp only [List.filter_cons, hf, if_true, List.lookup_cons, beq_eq_false_iff_ne.mpr hy]; exact ih
      | false => simp only [List.filter_cons, hf, Bool.false_eq_true, if_false, List.lookup_cons, beq_eq_false_iff_ne.mpr hy]; exact ih
/-- what is known of the names of a comprehension -/
structure CompNames (env : Env) (scope : Scope) (cl : List (Str × Addr)) (x : Str) : Prop where
  clos : closureFor scope env = pure cl
  cell : ∀ y ∈ scope.names, y.2 ≠ .cell
  kind : scope.kind = .function
  names : ∀ y ∈ scope.names, y.2 = .local → scope.names.lookup y.1 = some .local
  x : scope.names.lookup x = some .local
  outer : ∀ y a, cl.lookup y = some a → env.cells.lookup y = some a ∧ (env.kindOf y = some .cell ∨ env.kindOf y = some .free) ∧ ((relabel scope env).names.lookup y = some .cell ∨ (relabel scope env).names.lookup y = some .free)
theorem Ctx.Ok.inn {c : Ctx} (O : c.Ok) {scope : Scope} {cl : List (Str × Addr)} {x : Str} (N : CompNames c.env scope cl x) {C : Addr} {h : Heap} {P : Fz} (hb : c.base.get? C = none) : (c.inn scope cl C h P).Ok :=
  ⟨O.1, O.2, O.3, O.4, N.kind, O.6, O.7, O.8, O.9, O.10, O.11, O.12, Free.of_none (dropAt_self h C), hb, O.15, O.16, O.17, fun y z a q r => O.celd y z a (N.outer y a q).1 (N.outer z a r).1⟩
theorem Inv.inn {c : Ctx} {h : Heap} {m mC : Str → Option Value} {P : Fz} {oa oa' : Addr} {σ : S} (I : Inv c h m P oa σ) {scope : Scope} {cl : List (Str × Addr)} {x : Str} (N : CompNames c.env scope cl x) {C : Addr} (al : Alien c P oa σ C) (hn : h.Ns C mC) {v : Value} {d : V} (hm : mC x = some v) (r : VIn P v d) :
    Inv (c.inn scope cl C h P) h mC P oa' (inS cl x d σ) := by
  obtain ⟨a1, a2, a3, a4, a5, a6, a7, a8⟩ := al
  refine ⟨I.stay, fun b o e n => ?_, fun hi e => by cases e; exact FK.refl h, I.ff, hn, fun b o q => ?_, fun b o q => .inl q, fun b o q => q, fun y b q => ?_, fun y e q => ?_, fun y ds q => nomatch q⟩
  · by_cases w : b = C
    · subst w; rw [show (c.inn scope cl b h P).hc = dropAt h b from rfl, dropAt_self] at e; cases e
    · rw [show (c.inn scope cl C h P).hc = dropAt h C from rfl, dropAt_ne h w] at e; exact ⟨o.slots, e⟩
  · obtain ⟨u, n, _⟩ := I.frz b o q
    exact ⟨u, n, fun w => a4 o ((show b = C from w) ▸ q)⟩
  · have z := (N.outer y b q).1
    obtain ⟨e1, e2, e3⟩ := I.cel y b z
    exact ⟨a6 y b z, e2, e3⟩
  · have q : (setV x d (σ.vars.filter fun p => (cl.lookup p.1).isSome)).lookup y = some e := q
    rw [setV_lookup] at q
    by_cases hy : y = x
    · rw [if_pos hy] at q; cases q; subst hy
      exact ⟨v, .inl ⟨lookup_relabel_local N.x, hm⟩, r⟩
    · rw [if_neg hy, filter_lookup (fun z => (cl.lookup z).isSome)] at q
      by_cases w : (cl.lookup y).isSome = true
      · rw [if_pos w] at q
        obtain ⟨a, ha⟩ := Option.isSome_iff_exists.mp w
        obtain ⟨b1, b2, b3⟩ := N.outer y a ha
        obtain ⟨v', f1, f2⟩ := I.vars y e q
        rcases f1 with ⟨g1, g2⟩ | ⟨g1, a', g2, g3⟩
        · rcases b2 with b2 | b2 <;> (rw [g1] at b2; cases b2)
        · rw [b1] at g2; cases g2
          exact ⟨v', .inr ⟨b3, a, ha, g3⟩, f2⟩
      · rw [if_neg w] at q; cases q
theorem Inv.outn {c : Ctx} {h h' : Heap} {m mC : Str → Option Value} {P P' : Fz} {oa oa' : Addr} {σ σi : S} (I : Inv c h m P oa σ) {scope : Scope} {cl : List (Str × Addr)} {C : Addr} (al : Alien c P oa σ C) (Ii : Inv (c.inn scope cl C h P) h' mC P' oa' σi) (g : Grows P P') :
    Inv c h' m P' oa σ ∧ (∀ b o, b ≠ C → Up h b o → NF o → Up h' b o) ∧ FK h h' ∧ ∀ b o, P' b o → P b o ∨ (Free h b ∧ NF o ∧ Up h' b o) := by
  have up : ∀ b o, b ≠ C → h.get? b = some o → NF o → ∃ sl, h'.get? b = some { o with slots := sl } := fun b o w e n => Ii.upc b o (by rw [show (c.inn scope cl C h P).hc = dropAt h C from rfl, dropAt_ne h w]; exact e) n
  have fk : FK h h' := Ii.itk h rfl
  have nw : ∀ b o, P' b o → P b o ∨ (Free h b ∧ NF o ∧ Up h' b o) := fun b o q => by
    obtain ⟨u, n, l⟩ := Ii.frz b o q
    rcases Ii.src b o q with z | z
    · exact .inl z
    · refine .inr ⟨fun o' e => ?_, n, u⟩
      have l : b ≠ C := l
      exact z o' (by rw [show (c.inn scope cl C h P).hc = dropAt h C from rfl, dropAt_ne h l]; exact e)
  refine ⟨I.trans al Ii.stay up (fun hi e => (I.itk hi e).trans fk) Ii.ff g nw, fun b o w ⟨sl, e⟩ n => ?_, fk, nw⟩
  obtain ⟨sl', e'⟩ := up b _ w e n
  exact ⟨sl', e'⟩
theorem Inv.alien_new {c : Ctx} {h : Heap} {m : Str → Option Value} {P : Fz} {oa : Addr} {σ : S} (I : Inv c h m P oa σ) : Alien c P oa σ h.objs.size := by
  obtain ⟨f1, f2, f3, f4⟩ := I.fresh
  refine ⟨f2, f3, I.news.2, f1, fun w => ?_, f4, fun y ds q w => ?_, fun en q L z w => ?_⟩
  · obtain ⟨oL, _, _, hL, _⟩ := I.ns
    rw [← w] at hL
    exact absurd (Heap.lt_size hL) (Nat.lt_irrefl _)
  · obtain ⟨_, _, _, _, _, _, vs, ⟨n, sl, ho⟩, _⟩ := I.own y ds q
    rw [w] at ho
    exact absurd (Heap.lt_size ho) (Nat.lt_irrefl _)
  · obtain ⟨o', e', n⟩ := frames_at I.ff en q L z
    rw [w] at e'
    exact absurd (Heap.lt_size e') (Nat.lt_irrefl _)
theorem Alien.mono {c : Ctx} {P P' : Fz} {oa : Addr} {σ : S} {a : Addr} (al : Alien c P oa σ a) (n : ∀ o, ¬ P' a o) : Alien c P' oa σ a := ⟨al.1, al.2.1, al.2.2.1, n, al.2.2.2.2⟩

/-- a place that nobody looks at is frozen -/
theorem Inv.frozen {c : Ctx} {h : Heap} {m : Str → Option Value} {P : Fz} {oa : Addr} {σ : S} (I : Inv c h m P oa σ) {a : Addr} {o : Obj} (al : Alien c P oa σ a) (e : h.get? a = some o) (n : NF o) : Inv c h m (fun b x => P b x ∨ (b = a ∧ x = o)) oa σ := by
  obtain ⟨a1, a2, a3, a4, a5, a6, a7, a8⟩ := al
  have gr : Grows P fun b x => P b x ∨ (b = a ∧ x = o) := fun _ _ q => .inl q
  refine ⟨I.stay, I.upc, I.itk, I.ff, I.ns, fun b x q => ?_, fun b x q => ?_, fun b x q => .inl (I.old b x q), fun y b q => ?_, fun y d q => ?_, fun y ds q => ?_⟩
  · rcases q with q | ⟨rfl, rfl⟩
    · exact I.frz b x q
    · exact ⟨Up.of e, n, a5⟩
  · rcases q with q | ⟨rfl, rfl⟩
    · exact I.src b x q
    · exact .inr a2
  · obtain ⟨e1, e2, e3⟩ := I.cel y b q
    refine ⟨e1, fun x z => ?_, e3⟩
    rcases z with z | ⟨z, _⟩
    · exact e2 x z
    · exact a6 y b q z
  · obtain ⟨v, f1, f2⟩ := I.vars y d q
    exact ⟨v, f1, f2.mono gr⟩
  · obtain ⟨e1, e2, e3, e4, e5, e6, vs, e7, e8⟩ := I.own y ds q
    refine ⟨e1, e2, e3, fun x z => ?_, e5, e6, vs, e7, e8.mono gr⟩
    rcases z with z | ⟨z, _⟩
    · exact e4 x z
    · exact a7 y ds q z

noncomputable def TS (c : Ctx) (X : Str → Prop) (ifs : List Expr) (σ : S) (B : Bool → S → Prop) : Prop :=
  match ifs with
  | [] => B true σ
  | [t] => EB c X t σ B
  | _ => False
/-- what a comprehension makes -/
noncomputable def CompOk (c : Ctx) (X : Str → Prop) (scope : Scope) (cl : List (Str × Addr)) (x : Str) (ifs : List Expr) (elt iter : Expr) (σ : S) (Fin : List V → S → Prop) : Prop :=
  IT c X iter σ fun ds σ₁ => ∃ J : Nat → List V → Prop, J 0 [] ∧ ds.length ≤ 1000000 ∧
    (∀ C h P i d acc, (c.inn scope cl C h P).Ok → ds[i]? = some d → J i acc → TS (c.inn scope cl C h P) NoX ifs (inS cl x d σ₁) fun b σ₂ => if b = true then EV (c.inn scope cl C h P) NoX elt σ₂ fun v _ => J (i + 1) (acc ++ [v]) else J (i + 1) acc) ∧
    ∀ acc, J ds.length acc → acc.length ≤ 1000000 → Fin acc σ₁

section
variable {c : Ctx} {X : Str → Prop} {σ : S} {Q : VPost} {pos : Pos} {k : Nat}
theorem ts_walk {ifs : List Expr} {B : Bool → S → Prop} {s : Shared} {m P oa Φ E} (h : TS c X ifs σ B) (I : Inv c s.heap m P oa σ) (p : PostB c s P oa B Φ) (x : ExP c X s E) :
    wpAny (model c.prog c.w) c.A (forIn ifs true fun t r => if r = true then do let ok ← isTrue t c.env (eval t c.env); pure (ForInStep.yield ok) else pure (ForInStep.yield r)) Φ E s := by
  unfold TS at h
  split at h
  · exact wpAny_pure (p _ σ _ _ m P I (Grows.refl P) h)
  · rw [List.forIn_cons]
    simp only [if_true]
    refine wpAny_bind (wpAny_bind (h s m P oa _ E I (fun b σ₁ h₁ tk₁ m₁ P₁ I₁ g₁ q₁ => ?_) x))
    refine wpAny_pure ?_
    exact wpAny_pure (p _ σ₁ _ _ m₁ P₁ I₁ g₁ q₁)
  · exact h.elim
theorem pyIter_itr {P : Fz} {s : Shared} {a : Addr} {ds : List V} {i : Nat} {Φ : Value → Shared → Prop} {E} (t : Itr c P s.heap a ds i) (q : Φ (.ref a) s) : wpAny (model c.prog c.w) c.A (pyIter (.ref a)) Φ E s := by
  obtain ⟨_, _, ⟨l, o, vs, n, _, _, _, _, hit⟩ | ⟨b, kk, hit, _⟩⟩ := t
  · exact wpAny_pyIter_listiter hit q
  · exact wpAny_pyIter_rangeiter hit q
theorem comp_walk (O : c.Ok) {scope : Scope} {cl : List (Str × Addr)} {x : Str} {xp : Pos} {ifs : List Expr} {elt iter : Expr} (N : CompNames c.env scope cl x) (hs : isSet iter = false) {Fin : List V → S → Prop}
    (h : CompOk c X scope cl x ifs elt iter σ Fin) {s : Shared} {m P oa E} {Φ : Value → Shared → Prop} {use : Option (Value → Sem Unit)} (I : Inv c s.heap m P oa σ) (xx : ExP c X s E)
    (p : ∀ D C acc ys σ' h' tk' m' mC P', Inv c h' m' P' oa σ' → Grows P P' → OwnAt h' D ys → VAll P' ys.toList acc → h'.Ns C mC → Alien c P' oa σ' D → Alien c P' oa σ' C → D ≠ C → Fin acc σ' → acc.length ≤ 1000000 →
      compPost (model c.prog c.w) c.A E use Φ (.ref D) C (.ok .next) { s with heap := h', toks := tk' }) :
    wpAny (model c.prog c.w) c.A (comprehension (.ListComp elt [⟨.Name x xp, iter, ifs, 0⟩] scope pos) scope c.env (firstIterPos [⟨.Name x xp, iter, ifs, 0⟩] pos) (newList []) false (eval iter c.env) use) Φ E s := by
  refine wpAny_comprehension_free rfl (noFold hs) N.clos N.kind N.names (h s m P oa _ E I (fun it ds σ₁ h₁ tk₁ m₁ P₁ I₁ g₁ t₁ q₁ => ?_) xx)
  obtain ⟨J, j0, hz, turn, fin⟩ := q₁
  refine wpAny_newObj_type ?_ (by show ([] : List Value).toArray.size ≤ sizeLine; decide)
  refine wpAny_newFunctionEnv N.cell (by intro y hy; simp at hy) (fun h₃ hn₃ hs₃ => ?_) N.kind
  dsimp only at hn₃ hs₃ ⊢
  -- the new list, the new frame
  have I₂ := I₁.pushAny { cls := .type "list", data := .seq ([] : List Value).toArray }
  have alD₂ : Alien c P₁ oa σ₁ h₁.objs.size := I₁.alien_new
  generalize hH2 : h₁.push { cls := .type "list", dict := none, data := .seq ([] : List Value).toArray } = H2 at hn₃ hs₃ I₂ ⊢
  have hC : H2.objs.size = h₁.objs.size + 1 := by rw [← hH2, Heap.size_push]
  have hDC : h₁.objs.size ≠ H2.objs.size := by lia
  have alC : Alien c P₁ oa σ₁ H2.objs.size := I₂.alien_new
  have hD₂ : OwnAt H2 h₁.objs.size #[] := ⟨0, #[], by rw [← hH2]; exact Heap.get?_push_size _ rfl⟩
  have I₂' := I₂.pushAny { cls := .type "dict", data := .dict #[] }
  have ext : Heap.ExtBut H2.objs.size (H2.push { cls := .type "dict", data := .dict #[] }) h₃ := hs₃.extBut
  obtain ⟨oC, eC, kC, hoC, hdC, _⟩ := id hn₃
  have I₃ : Inv c h₃ m₁ P₁ oa σ₁ := I₂'.alien alC ext
  have hD₃ : OwnAt h₃ h₁.objs.size #[] := by
    obtain ⟨n, sl, e⟩ := hD₂
    exact ⟨n, sl, ext _ _ hDC (Heap.get?_push_of_some _ e)⟩
  obtain ⟨oi, vi, ei, fi⟩ := t₁.data
  have hit3 : h₃.get? it = some oi := by
    have lt := Heap.lt_size ei
    refine ext it oi (by rw [hC]; exact Nat.ne_of_lt (Nat.lt_succ_of_lt lt)) (Heap.get?_push_of_some _ ?_)
    rw [← hH2]; exact Heap.get?_push_of_some _ ei
  have fk3 : FK h₁ h₃ := fun b o vs e _ => by
    have lt := Heap.lt_size e
    refine ext b o (by rw [hC]; exact Nat.ne_of_lt (Nat.lt_succ_of_lt lt)) (Heap.get?_push_of_some _ ?_)
    rw [← hH2]; exact Heap.get?_push_of_some _ e
  have t₃ : Itr c P₁ h₃ it ds 0 := t₁.keep (Grows.refl _) fk3
  have loop : codeAny (model c.prog c.w) c.A (.compLoop (.ListComp elt [⟨.Name x xp, iter, ifs, 0⟩] scope pos) 0 (.ref it) (.ref h₁.objs.size) (compEnvC scope cl H2.objs.size c.env)) (compPost (model c.prog c.w) c.A E use Φ (.ref h₁.objs.size) H2.objs.size) { s with heap := h₃, toks := tk₁ + 0 } := by
    refine codeAny_compLoop_tests (fun n s' => ∃ h' tk' mC P' i acc ys, s' = { s with heap := h', toks := tk' } ∧ Inv c h' m₁ P' oa σ₁ ∧ Grows P P' ∧ Itr c P' h' it ds i ∧ OwnAt h' h₁.objs.size ys ∧ VAll P' ys.toList acc ∧ h'.Ns H2.objs.size mC ∧
      Alien c P' oa σ₁ h₁.objs.size ∧ Alien c P' oa σ₁ H2.objs.size ∧ J i acc ∧ acc.length ≤ i ∧ i ≤ ds.length ∧ n = ds.length - i) ?_ _ ⟨h₃, tk₁ + 0, _, P₁, 0, [], #[], rfl, I₃, g₁, t₃, hD₃, .nil, hn₃, alD₂, alC, j0, Nat.le_refl _, Nat.zero_le _, rfl⟩
    rintro n s' ⟨h₄, tk₄, mC, P₄, i, acc, ys, rfl, I₄, g₄, t₄, hD₄, ra, hn₄, aD₄, aC₄, j₄, hl, hi, rfl⟩
    obtain ⟨oi₄, vi₄, ei₄, fi₄⟩ := t₄.data
    have hDi : h₁.objs.size ≠ it := fun w => by obtain ⟨n, sl, e⟩ := hD₄; rw [w, ei₄] at e; cases e; cases fi₄
    have hCi : H2.objs.size ≠ it := fun w => by obtain ⟨_, _, _, e, e', _⟩ := hn₄; rw [w, ei₄] at e; cases e; rw [fi₄] at e'; cases e'
    refine next_walk O (s := { s with heap := h₄, toks := tk₄ }) I₄ t₄ (fun v d h₅ tk₅ hd r₅ I₅ t₅ hs₅ => ?_) (fun h₅ tk₅ hn I₅ he₅ => ?_)
    · have hlt := (List.getElem?_eq_some_iff.mp hd).1
      have hn₅ := hn₄.sameBut hs₅ hCi
      refine wpAny_assign_Name (wpAny_storeName_local (env := compEnvC scope cl H2.objs.size c.env) (lookup_relabel_local N.x) hn₅ (fun h₆ hn₆ hs₆ => ?_) (by show (scope.kind == .class || (scope.kind == .module && _)) = false; rw [N.kind]; rfl))
      dsimp only at hs₆
      have nfC : ∀ o, h₅.get? H2.objs.size = some o → NF o := fun o e => by obtain ⟨_, _, _, e', d', _⟩ := hn₅; rw [e'] at e; cases e; exact nf_dict d'
      obtain ⟨oC6, _, _, ho6, hd6, _⟩ := id hn₆
      have I₆ := I₅.alien aC₄ hs₆.extBut
      have t₆ := t₅.keep (Grows.refl _) (FK.same hs₆ nfC)
      have hD₆ : OwnAt h₆ h₁.objs.size ys := isList_same hs₆ hDC (isList_same hs₅ hDi hD₄)
      have Oi := O.inn N (C := H2.objs.size) (h := h₆) (P := P₄) alC.1
      have Ii : Inv (c.inn scope cl H2.objs.size h₆ P₄) h₆ _ P₄ 0 (inS cl x d σ₁) := I₆.inn N aC₄ hn₆ (by simp) r₅
      have w₁ := turn H2.objs.size h₆ P₄ i d acc Oi hd j₄
      refine ts_walk (c := c.inn scope cl H2.objs.size h₆ P₄) (s := { s with heap := h₆, toks := _ }) w₁ Ii (fun b σ₇ h₇ tk₇ m₇ P₇ I₇ g₇ q₇ => ?_) exp_no
      have stay : ∀ h₈ m₈ P₈ σ₈, Inv (c.inn scope cl H2.objs.size h₆ P₄) h₈ m₈ P₈ 0 σ₈ → Grows P₄ P₈ → Inv c h₈ m₁ P₈ oa σ₁ ∧ Itr c P₈ h₈ it ds (i + 1) ∧ OwnAt h₈ h₁.objs.size ys ∧ h₈.Ns H2.objs.size m₈ ∧ Alien c P₈ oa σ₁ h₁.objs.size ∧ Alien c P₈ oa σ₁ H2.objs.size := fun h₈ m₈ P₈ σ₈ I₈ g₈ => by
        obtain ⟨b1, b2, b3, b4⟩ := I₆.outn aC₄ I₈ g₈
        obtain ⟨nD, slD, eD⟩ := hD₆
        refine ⟨b1, t₆.keep g₈ b3, ?_, I₈.ns, aD₄.mono fun o q => ?_, aC₄.mono fun o q => (I₈.frz _ o q).2.2 rfl⟩
        · obtain ⟨sl', e'⟩ := b2 _ _ hDC (Up.of eD) (nf_seq rfl)
          exact ⟨nD, sl', e'⟩
        · rcases b4 _ o q with z | ⟨z, _, _⟩
          · exact aD₄.2.2.2.1 o z
          · exact z _ eD (nf_seq rfl)
      cases b with
      | false =>
        obtain ⟨c1, c2, c3, c4, c5, c6⟩ := stay h₇ m₇ P₇ σ₇ I₇ g₇
        exact ⟨_, by lia, h₇, tk₇, m₇, P₇, i + 1, acc, ys, rfl, c1, g₄.trans g₇, c2, c3, ra.mono g₇, c4, c5, c6, q₇, by lia, hlt, rfl⟩
      | true =>
        refine q₇ { s with heap := h₇, toks := tk₇ } m₇ P₇ 0 _ _ I₇ (fun v₈ d₈ σ₈ h₈ tk₈ m₈ P₈ I₈ g₈ r₈ q₈ => ?_) exp_no
        obtain ⟨c1, c2, c3, c4, c5, c6⟩ := stay h₈ m₈ P₈ σ₈ I₈ (g₇.trans g₈)
        obtain ⟨nD, slD, eD⟩ := id c3
        have z := own_update (·.push v₈) eD
        have ra8 := (ra.mono (g₇.trans g₈))
        have hlen := ra8.length
        rw [Array.length_toList] at hlen
        have nfD : ∀ o, h₈.get? h₁.objs.size = some o → NF o := fun o e => by rw [eD] at e; cases e; exact nf_seq rfl
        refine call_meets (s := { s with heap := h₈, toks := tk₈ }) PySem.F.slot_list_append c3.isList.typeIs PySem.F.entry_list_append (PySem.F.args_list_append_2 _ _) (append_own _ ys nD slD v₈ (by have : (1000000 : Nat) ≤ sizeLine := by decide
                                                                                                                                                                                                        lia)) ⟨eD, ?_⟩
        obtain ⟨nD', slD', eD'⟩ := id z.1
        refine ⟨_, by lia, _, tk₈, m₈, P₈, i + 1, acc ++ [d₈], ys.push v₈, rfl, c1.alien c5 z.2.extBut, g₄.trans (g₇.trans g₈), c2.keep (Grows.refl _) (FK.same z.2 nfD), z.1, ?_, c4.sameBut z.2 (Ne.symm hDC), c5, c6, q₈, by rw [List.length_append, List.length_singleton]; lia, hlt, rfl⟩
        rw [Array.toList_push]
        exact ra8.append (.cons r₈ .nil)
    · have hge := List.getElem?_eq_none_iff.mp hn
      have e : i = ds.length := by lia
      subst e
      have hD₅ : OwnAt h₅ h₁.objs.size ys := by obtain ⟨n, sl, e⟩ := hD₄; exact ⟨n, sl, he₅ _ _ hDi e⟩
      have hn₅ : h₅.Ns H2.objs.size mC := by
        obtain ⟨oL, es, ep, hL, r⟩ := hn₄
        exact ⟨oL, es, ep, he₅ _ _ hCi hL, r⟩
      exact p _ _ acc ys σ₁ h₅ tk₅ m₁ mC P₄ I₅ g₄ hD₅ ra hn₅ aD₄ aC₄ hDC (fin acc j₄ (by lia)) (by lia)
  exact codeAny_compStart_list loop (pyIter_itr (s := { s with heap := h₃, toks := tk₁ + 0 }) t₃ loop)
/-- a list of a comprehension, as a value -/
theorem ev_comp (O : c.Ok) {scope : Scope} {cl : List (Str × Addr)} {x : Str} {xp : Pos} {ifs : List Expr} {elt iter : Expr} (N : CompNames c.env scope cl x) (hs : isSet iter = false)
    (h : CompOk c X scope cl x ifs elt iter σ fun acc σ₁ => Q (.lst acc) σ₁) : EV c X (.ListComp elt [⟨.Name x xp, iter, ifs, 0⟩] scope pos) σ Q := fun s m P oa Φ E I p xx => by
  rw [eval_ListComp]
  refine comp_walk O N hs h I xx fun D C acc ys σ' h' tk' m' mC P' I' g hD ra hn aD aC hDC q hz => ⟨mC, hn, fun h'' hs'' => ?_⟩
  have I₂ := I'.alien aC hs''.extBut
  obtain ⟨n, sl, e⟩ := isList_same hs'' hDC hD
  have gr : Grows P' fun a y => P' a y ∨ (a = D ∧ y = ⟨.type "list", none, .seq ys n, sl⟩) := fun _ _ q => .inl q
  refine p _ _ σ' h'' tk' m' _ (I₂.frozen aD e (nf_seq rfl)) (g.trans gr) (.lst (.inr ⟨rfl, rfl⟩) rfl rfl (ra.mono gr)) q
end
section
variable {c : Ctx} {X : Str → Prop} {σ : S} {Q : SPost} {pos : Pos} {k : Nat}
theorem sx_assign' (O : c.Ok) {x : Str} {xp : Pos} {e : Expr} (hc : swapsWith e (some (.Name x xp)) pos.line c.env = pure false) (hx : Bindable c x) (h : EV c X e σ fun d σ₁ => Q .next (σ₁.put x d)) : SX c X (.Assign [.Name x xp] e pos) σ Q := fun s m P oa Φ E I p xx =>
  wpAny_Assign_Name (h s m P oa _ E I (fun v d σ₁ h₁ tk₁ m₁ P₁ I₁ g₁ r₁ q₁ => store_walk O I₁ r₁ hx fun h' tk' m' I' _ => p _ _ _ h' tk' m' P₁ oa I' g₁ .next q₁) xx) hc
theorem Alien.put {P : Fz} {oa : Addr} {a : Addr} {x : Str} {d : V} (al : Alien c P oa σ a) : Alien c P oa (σ.put x d) a :=
  ⟨al.1, al.2.1, al.2.2.1, al.2.2.2.1, al.2.2.2.2.1, al.2.2.2.2.2.1, fun y ds q => al.2.2.2.2.2.2.1 y ds (S.put_own q).1, al.2.2.2.2.2.2.2⟩
/-- y = [.. for ..], y a local name: frozen at once -/
theorem sx_comp (O : c.Ok) {y : Str} {yp : Pos} {scope : Scope} {cl : List (Str × Addr)} {x : Str} {xp : Pos} {ifs : List Expr} {elt iter : Expr} {p₀ : Pos} (N : CompNames c.env scope cl x) (hs : isSet iter = false)
    (hsw : swapsWith (.ListComp elt [⟨.Name x xp, iter, ifs, 0⟩] scope p₀) (some (.Name y yp)) pos.line c.env = pure true) (hy : c.env.kindOf y = some .local)
    (h : CompOk c X scope cl x ifs elt iter σ fun acc σ₁ => Q .next (σ₁.put y (.lst acc))) : SX c X (.Assign [.Name y yp] (.ListComp elt [⟨.Name x xp, iter, ifs, 0⟩] scope p₀) pos) σ Q := fun s m P oa Φ E I p xx => by
  rw [exec_Assign_Name_used _ _ _ _ hsw]
  refine wpAny_bind (wpAny_standAt (wpAny_bind ?_))
  show wpAny _ _ (do let _ ← comprehension (.ListComp elt [⟨.Name x xp, iter, ifs, 0⟩] scope p₀) scope c.env (firstIterPos [⟨.Name x xp, iter, ifs, 0⟩] p₀) (newList []) false (eval iter c.env) (some (assign (.Name y yp) c.env))) _ _ s
  refine wpAny_bind (wpAny_mono (comp_walk O (Φ := fun _ s' => Φ .next s') (use := some (assign (.Name y yp) c.env)) N hs h I xx fun D C acc ys σ' h' tk' m' mC P' I' g hD ra hn aD aC hDC q hz => ?_) (fun _ s' hq => wpAny_pure (wpAny_pure hq)) fun _ _ e => e)
  obtain ⟨n, sl, e⟩ := id hD
  have gr : Grows P' fun a y => P' a y ∨ (a = D ∧ y = ⟨.type "list", none, .seq ys n, sl⟩) := fun _ _ q => .inl q
  have I₂ := I'.frozen aD e (nf_seq rfl)
  have aC₂ : Alien c (fun a y => P' a y ∨ (a = D ∧ y = ⟨.type "list", none, .seq ys n, sl⟩)) oa σ' C := aC.mono fun o z => by
    rcases z with z | ⟨z, _⟩
    · exact aC.2.2.2.1 o z
    · exact hDC z.symm
  refine wpAny_assign_Name (wpAny_storeName_local hy I₂.ns (fun h₂ hn₂ hs₂ => ?_) (notCls O))
  have I₃ := I₂.putLocal O hy hn₂ hs₂ (.lst (.inr ⟨rfl, rfl⟩) rfl rfl (ra.mono gr))
  refine ⟨mC, hn.sameBut hs₂ aC.2.2.2.2.1, fun h₃ hs₃ => ?_⟩
  exact p _ _ _ h₃ _ _ _ oa (I₃.alien aC₂.put hs₃.extBut) (g.trans gr) .next q
/-- the same, but it may be changed from now on -/
theorem sx_comp_own (O : c.Ok) {y : Str} {yp : Pos} {scope : Scope} {cl : List (Str × Addr)} {x : Str} {xp : Pos} {ifs : List Expr} {elt iter : Expr} {p₀ : Pos} (N : CompNames c.env scope cl x) (hs : isSet iter = false)
    (hsw : swapsWith (.ListComp elt [⟨.Name x xp, iter, ifs, 0⟩] scope p₀) (some (.Name y yp)) pos.line c.env = pure true) (hy : c.env.kindOf y = some .local)
    (h : CompOk c X scope cl x ifs elt iter σ fun acc σ₁ => σ₁.own = none ∧ Q .next ⟨delV y σ₁.vars, some (y, acc)⟩) : SX c X (.Assign [.Name y yp] (.ListComp elt [⟨.Name x xp, iter, ifs, 0⟩] scope p₀) pos) σ Q := fun s m P oa Φ E I p xx => by
  rw [exec_Assign_Name_used _ _ _ _ hsw]
  refine wpAny_bind (wpAny_standAt (wpAny_bind ?_))
  show wpAny _ _ (do let _ ← comprehension (.ListComp elt [⟨.Name x xp, iter, ifs, 0⟩] scope p₀) scope c.env (firstIterPos [⟨.Name x xp, iter, ifs, 0⟩] p₀) (newList []) false (eval iter c.env) (some (assign (.Name y yp) c.env))) _ _ s
  refine wpAny_bind (wpAny_mono (comp_walk O (Φ := fun _ s' => Φ .next s') (use := some (assign (.Name y yp) c.env)) N hs h I xx fun D C acc ys σ' h' tk' m' mC P' I' g hD ra hn aD aC hDC q hz => ?_) (fun _ s' hq => wpAny_pure (wpAny_pure hq)) fun _ _ e => e)
  refine wpAny_assign_Name (wpAny_storeName_local hy I'.ns (fun h₂ hn₂ hs₂ => ?_) (notCls O))
  have I₃ := I'.mkOwn O q.1 hy hD aD.1 aD.2.1 aD.2.2.2.1 aD.2.2.2.2.2.1 ra hn₂ hs₂
  refine ⟨mC, hn.sameBut hs₂ aC.2.2.2.2.1, fun h₃ hs₃ => ?_⟩
  have aC₃ : Alien c P' D ⟨delV y σ'.vars, some (y, acc)⟩ C := ⟨aC.1, aC.2.1, aC.2.2.1, aC.2.2.2.1, aC.2.2.2.2.1, aC.2.2.2.2.2.1, fun _ _ _ => hDC, aC.2.2.2.2.2.2.2⟩
  exact p _ _ _ h₃ _ _ _ D (I₃.alien aC₃ hs₃.extBut) g .next q.2
end
theorem MsgD.up {h h' : Heap} {dx : Addr} {msg : Str} (k : h.UpToSlots h') (x : MsgD h dx msg) : MsgD h' dx msg := by
  obtain ⟨od, es, n, t, u, h3, h4⟩ := x
  exact ⟨od, es, n, t, u.mono k (nf_dict h3), h3, h4⟩
section
variable {M : Model} {A : Around} {E : Value → Shared → Prop} {s : Shared} {base : Heap} {env : Env} {outer : List Env} {L e dx : Addr}

/-- the entry that a frame writes behind the exception's name -/
theorem entry_walk {vs : Array Value} {sl : Array (Option Value)} {head : Value} {hn : Bool} {Q : Unit → Shared → Prop} (hfr : A.frames = some (env :: outer)) (hl : s.heap.FunFrames base (env :: outer)) (hf : env.frame = some L) (st : base.StaysIn s.heap)
    (he : s.heap.get? e = some ⟨.ref refC, some dx, .fields vs, sl⟩) (hsz : 1 < vs.size) (hb : base.get? e = none)
    (hQ : ∀ h', base.StaysIn h' → h'.FunFrames base (env :: outer) → s.heap.UpToSlots h' → ET base h' e dx (some (rawInt L)) → Q () { s with heap := h' }) :
    wpAny M A (do let a ← frameOf env; let pl ← entryPlaceOf L hn; let b ← EntryCells.newEntry head a .none (rawInt L) .none pl; setField (.ref e) 1 b) Q E s := by
  have hin : e ∉ (env :: outer).filterMap (·.frame) := fun hm => by
    obtain ⟨_, o, ho, hnf⟩ := hl.mem hm
    rw [he] at ho; cases ho; exact hnf vs rfl
  refine wpAny_bind (wpAny_frameOf_fun hfr hl hf fun h₁ ⟨hz, hkeep, hsl⟩ => ?_)
  refine wpAny_bind (wpAny_entryPlaceOf fun pl hpl => ?_)
  unfold EntryCells.newEntry newFields
  refine wpAny_bind (wpAny_newObj_type ?_ (hpl.sizeOk5 _ _ _ _ _))
  generalize hD : ({ cls := .type "traceback", dict := none, data := .fields ([head, .ref L, .none, rawInt L, .none] ++ (if pl.isEmpty then List.replicate 6 Value.none else pl)).toArray } : Obj) = tb
  have he₁ := Heap.get?_push_of_some tb ((hkeep e hin).trans he)
  have lt : e < h₁.objs.size := Heap.lt_size ((hkeep e hin).trans he)
  refine wpAny_setField he₁ rfl hsz ?_
  have ft : tb.isFreed = false := by rw [← hD]; rfl
  have hT := Heap.get?_push_size h₁ ft
  have ne : h₁.objs.size ≠ e := Nat.ne_of_gt lt
  have up₁ : ∀ b o, b ≠ e → s.heap.get? b = some o → ∃ sl', ((h₁.push tb).update e (Obj.mapFields (·.setIfInBounds 1 (Value.ref h₁.objs.size)))).get? b = some { o with slots := sl' } := fun b o hbe q => by
    obtain ⟨sl', q'⟩ := hsl b o q
    exact ⟨sl', (Heap.get?_update_other _ _ (Ne.symm hbe)).trans (Heap.get?_push_of_some _ q')⟩
  have stay : base.StaysIn ((h₁.push tb).update e (Obj.mapFields (·.setIfInBounds 1 (Value.ref h₁.objs.size)))) := fun b o q => by
    have hbe : b ≠ e := fun w => by rw [w, hb] at q; cases q
    have hbl : b ∉ (env :: outer).filterMap (·.frame) := fun hm => by rw [(hl.mem hm).1] at q; cases q
    exact (Heap.get?_update_other _ _ (Ne.symm hbe)).trans (Heap.get?_push_of_some _ ((hkeep b hbl).trans (st b o q)))
  have nofl : ∀ b o, s.heap.get? b = some o → NF o → b ≠ e := fun b o q n w => by rw [w, he] at q; cases q; exact n vs rfl
  refine hQ _ stay (funFrames_nf (fun b o q n => ?_) hl) (fun b o q n => up₁ b o (nofl b o q n) q) ⟨vs.setIfInBounds 1 (.ref h₁.objs.size), sl, ?_, by rw [Array.size_setIfInBounds]; exact hsz, h₁.objs.size, tb, _, by simp [hsz], ?_, ne, ?_, by rw [← hD], ?_⟩
  · obtain ⟨sl', q'⟩ := up₁ b o (nofl b o q n) q
    exact ⟨_, q', n⟩
  · exact Heap.get?_update_self (Obj.mapFields _) he₁ rfl
  · cases q : base.get? h₁.objs.size with
    | none => rfl
    | some o =>
      have w := Heap.lt_size (st _ _ q)
      rw [hz] at w
      exact absurd w (Nat.lt_irrefl _)
  · exact (Heap.get?_update_other _ _ (Ne.symm ne)).trans hT
  · first | (simp; done) | (rcases hpl with rfl | ⟨_, _, _, _, _, _, _, rfl⟩ <;> simp)
theorem note_walk {fl : Option Value} {Q : Unit → Shared → Prop} (hfr : A.frames = some (env :: outer)) (hl : s.heap.FunFrames base (env :: outer)) (hf : env.frame = some L) (st : base.StaysIn s.heap) (hb : base.get? e = none)
    (hfl : fl = none ∨ fl = some .none) (x : ET base s.heap e dx fl)
    (hQ : ∀ h', base.StaysIn h' → h'.FunFrames base (env :: outer) → s.heap.UpToSlots h' → ET base h' e dx (some (rawInt L)) → Q () { s with heap := h' }) : wpAny M A (noteFrame (.ref e) env) Q E s := by
  obtain ⟨vs, sl, he, hsz, x⟩ := x
  unfold noteFrame
  simp only [hf]
  rcases hfl with rfl | rfl
  · refine wpAny_bind (wpAny_field he rfl x ?_)
    rw [if_neg (by decide)]
    exact entry_walk hfr hl hf st he hsz hb hQ
  · obtain ⟨T, oT, ts, h1, hnT, hTe, hT, hdT, h3⟩ := x
    refine wpAny_bind (wpAny_field he rfl h1 ?_)
    rw [if_pos (show (Value.ref T != Value.none) = true from by simp)]
    refine wpAny_bind (wpAny_field hT hdT h3 ?_)
    rw [if_neg (show ¬ ((Value.none == rawInt L) = true) from by simp [rawInt])]
    refine wpAny_bind (wpAny_setField hT hdT (Array.getElem?_eq_some_iff.mp h3).1 ?_)
    have other : ∀ b, b ≠ T → (s.heap.update T (Obj.mapFields (·.setIfInBounds 3 Value.none))).get? b = s.heap.get? b := fun b q => Heap.get?_update_other _ _ (Ne.symm q)
    have nofl : ∀ b o, s.heap.get? b = some o → NF o → b ≠ T := fun b o q n w => by rw [w, hT] at q; cases q; exact n ts hdT
    refine entry_walk hfr (funFrames_nf (fun b o q n => ⟨o, (other b (nofl b o q n)).trans q, n⟩) hl) hf (fun b o q => (other b fun w => by rw [w, hnT] at q; cases q).trans (st b o q)) ((other e (Ne.symm hTe)).trans he) hsz hb
      fun h' x1 x2 x3 x4 => hQ h' x1 x2 (fun b o q n => x3 b o ((other b (nofl b o q n)).trans q) n) x4
theorem flight_walk {f : Value} {l : List Env} {Q : Unit → Shared → Prop} (hl : s.heap.FunFrames base l) (st : base.StaysIn s.heap) (x : ET base s.heap e dx (some f))
    (hQ : ∀ h', base.StaysIn h' → h'.FunFrames base l → s.heap.UpToSlots h' → ET base h' e dx (some .none) → Q () { s with heap := h' }) : wpAny M A (setFlight (.ref e) none) Q E s := by
  obtain ⟨vs, sl, he, hsz, T, oT, ts, h1, hnT, hTe, hT, hdT, h3⟩ := x
  have hz3 : 3 < ts.size := (Array.getElem?_eq_some_iff.mp h3).1
  have other : ∀ b, b ≠ T → (s.heap.update T (Obj.mapFields (·.setIfInBounds 3 ((none : Option Addr).elim Value.none fun f => rawInt f)))).get? b = s.heap.get? b := fun b q => Heap.get?_update_other _ _ (Ne.symm q)
  have nofl : ∀ b o, s.heap.get? b = some o → NF o → b ≠ T := fun b o q n w => by rw [w, hT] at q; cases q; exact n ts hdT
  unfold setFlight
  refine wpAny_bind (wpAny_field he rfl h1 ?_)
  rw [if_pos (show (Value.ref T != Value.none) = true from by simp)]
  refine wpAny_setField hT hdT hz3 (hQ _ (fun b o q => (other b fun w => by rw [w, hnT] at q; cases q).trans (st b o q)) (funFrames_nf (fun b o q n => ⟨o, (other b (nofl b o q n)).trans q, n⟩) hl) (fun b o q n => ⟨o.slots, (other b (nofl b o q n)).trans q⟩)
    ⟨vs, sl, (other e (Ne.symm hTe)).trans he, hsz, T, _, _, h1, hnT, hTe, Heap.get?_update_self _ hT (Obj.isFreed_of_fields (Obj.data_mapFields hdT _)), Obj.data_mapFields hdT _, by simp [hz3]⟩)
theorem leave_walk {fl : Option Value} {msg : Str} {Q : Unit → Shared → Prop} (hfr : A.frames = some (env :: outer)) (hl : s.heap.FunFrames base (env :: outer)) (hf : env.frame = some L) (st : base.StaysIn s.heap) (hb : base.get? e = none)
    (hfl : fl = none ∨ fl = some .none) (x : ET base s.heap e dx fl) (off : OffFr outer dx) (d : MsgD s.heap dx msg)
    (hQ : ∀ h', s.heap.UpToSlots h' → Flown base outer e msg h' → Q () { s with heap := h' }) : wpAny M A (leaving env (.ref e)) Q E s := by
  unfold leaving
  refine wpAny_bind (note_walk hfr hl hf st hb hfl x fun h₁ a1 a2 a3 a4 => flight_walk (s := { s with heap := h₁ }) a2 a1 a4 fun h₂ b1 b2 b3 b4 => ?_)
  exact hQ h₂ (a3.trans b3) ⟨b1, b2.2.2, hb, dx, off, (d.up a3).up b3, b4⟩
end
/-- what stands fast of the text's own objects -/
structure Grd (prog : Program) (w : World) (K : Frag) (base : Heap) (mg mb : Str → Option Value) : Prop where
  KIn : K.In base
  g : base.Ns mainGlobals mg
  b : base.Ns builtinsNs mb
  nolimit : base.NoLimit
  bu : ∀ x : Str, x ≠ "__name__" → mb x = bootBuiltins x
  vecK : VecK K
  refK : RefK K

noncomputable abbrev Tbl := List (Str × Bool × Spec)
noncomputable def TblOk (prog : Program) (w : World) (K : Frag) (base : Heap) (n : Nat) : Tbl → Prop
  | [] => True
  | e :: r => (∃ f o fd, nsIn K mainGlobals e.1 = some (some (.ref f)) ∧ K.lookup f = some o ∧ o.data = .func fd ∧ FnOk e.2.1 prog w base n f e.2.2) ∧ TblOk prog w K base n r
theorem TblOk.get {prog : Program} {w : World} {K : Frag} {base : Heap} {n : Nat} : ∀ {t : Tbl}, TblOk prog w K base n t → ∀ x kp sp, t.lookup x = some (kp, sp) → ∃ f o fd, nsIn K mainGlobals x = some (some (.ref f)) ∧ K.lookup f = some o ∧ o.data = .func fd ∧ FnOk kp prog w base n f sp
  | [], _, x, kp, sp, h => by simp at h
  | (y, kp', sp') :: r, ⟨h1, h2⟩, x, kp, sp, h => by
    rw [List.lookup_cons] at h
    by_cases q : x = y
    · subst q
      simp only [beq_self_eq_true] at h
      cases h; exact h1
    · rw [beq_eq_false_iff_ne.mpr q] at h
      exact h2.get x kp sp h

/-- what changes from call to call -/
structure Dyn where
  prog : Program
  w : World
  base : Heap
  mg : Str → Option Value
  mb : Str → Option Value
  A : Around
  fr : List Env
  hc : Heap
  P₀ : Fz
  L : Addr
  hi : Option Heap
/-- what a def brings along -/
structure Sta where
  K : Frag
  lvl : Nat
  qual : Str
  scope : Scope
  f : Addr
  cdv : Value
  tbl : Tbl
noncomputable def Sta.env (S : Sta) (L : Addr) : Env := envOfC S.qual S.scope L S.f S.cdv
noncomputable def mkC (S : Sta) (D : Dyn) : Ctx :=
  { prog := D.prog, w := D.w, K := S.K, base := D.base, mg := D.mg, mb := D.mb, A := D.A.deeper (S.env D.L), env := S.env D.L, fr := S.env D.L :: D.fr, hc := D.hc, P₀ := D.P₀, lvl := S.lvl, fn := fun x => S.tbl.lookup x, hi := D.hi }

theorem bindL_not {k : Str → Option NameKind} {x : Str} : ∀ {l : List (Str × Value)} {m : Str → Option Value}, (∀ y ∈ l, y.1 ≠ x) → bindL k l m x = m x
  | [], _, _ => rfl
  | (n, v) :: r, m, h => by
    unfold bindL
    rw [bindL_not fun y hy => h y (List.mem_cons_of_mem _ hy)]
    have := h (n, v) List.mem_cons_self
    split
    · exact if_neg (Ne.symm this)
    · rfl
theorem bindC_not {k : Str → Option NameKind} {x : Str} : ∀ {l : List (Str × Value)} {m : Str → Option Value}, (∀ y ∈ l, y.1 ≠ x) → bindC k l m x = m x
  | [], _, _ => rfl
  | (n, v) :: r, m, h => by
    unfold bindC
    rw [bindC_not fun y hy => h y (List.mem_cons_of_mem _ hy)]
    have := h (n, v) List.mem_cons_self
    split
    · rfl
    · exact if_neg (Ne.symm this)
theorem binds_at {k : Str → Option NameKind} {P : Fz} {x : Str} {d : V} : ∀ {ps : List Str} {vals : List Value} {ds : List V} {m cm : Str → Option Value}, ps.Nodup → vals.length = ps.length → VAll P vals ds → (ps.zip ds).lookup x = some d →
    ∃ v, VIn P v d ∧ (k x = some .local → bindL k (ps.zip vals) m x = some v) ∧ (k x ≠ some .local → bindC k (ps.zip vals) cm x = some v)
  | [], vals, ds, m, cm, _, _, _, h => by simp at h
  | p :: ps, [], ds, m, cm, _, h, _, _ => by simp at h
  | p :: ps, v :: vals, ds, m, cm, nd, hl, r, h => by
    cases r with
    | cons r rs =>
      rename_i d' ds'
      rw [List.zip_cons_cons, List.lookup_cons] at h
      rw [List.nodup_cons] at nd
      simp only [List.zip_cons_cons, bindL, bindC]
      have hl' : vals.length = ps.length := by simpa using hl
      by_cases q : x = p
      · subst q
        simp only [beq_self_eq_true] at h
        cases h
        have nin : ∀ y ∈ ps.zip vals, y.1 ≠ x := fun y hy e => nd.1 (e ▸ (List.of_mem_zip hy).1)
        refine ⟨v, r, fun hk => ?_, fun hk => ?_⟩
        · rw [bindL_not nin, if_pos hk]; simp
        · rw [bindC_not nin, if_neg hk]; simp
      · rw [beq_eq_false_iff_ne.mpr q] at h
        exact binds_at nd.2 hl' rs h

theorem above_mono : ∀ (names : List (Str × NameKind)) (n : Nat) (acc : List (Str × Addr)) (x : Str) (a : Addr), (x, a) ∈ cellsFrom n names acc → (x, a) ∈ acc ∨ n ≤ a
  | [], n, acc, x, a, h => .inl h
  | (y, k) :: r, n, acc, x, a, h => by
    unfold cellsFrom at h
    split at h
    · rcases above_mono r (n + 1) _ x a h with h | h
      · rcases List.mem_cons.mp h with h | h
        · cases h; exact .inr (Nat.le_refl _)
        · exact .inl h
      · exact .inr (by lia)
    · exact above_mono r n acc x a h
/-- parameters are names that may be bound -/
noncomputable def paramsOk (scope : Scope) (ps : List Str) : Bool :=
  ps.all fun p => match scope.names.lookup p with
    | some .local => true
    | some .cell => true
    | _ => false
theorem cells_some : ∀ (names : List (Str × NameKind)) (n : Nat) (acc : List (Str × Addr)) (x : Str), (acc.lookup x).isSome = true ∨ names.lookup x = some .cell → ((cellsFrom n names acc).lookup x).isSome = true
  | [], n, acc, x, h => by rcases h with h | h; exact h; simp at h
  | (y, k) :: r, n, acc, x, h => by
    unfold cellsFrom
    by_cases q : x = y
    · subst q
      split
      · exact cells_some r _ _ x (.inl (by simp))
      · rename_i hk
        rcases h with h | h
        · exact cells_some r _ _ x (.inl h)
        · simp only [List.lookup_cons, beq_self_eq_true] at h; cases h; exact absurd rfl hk
    · have e : (x == y) = false := beq_eq_false_iff_ne.mpr q
      split
      · refine cells_some r _ _ x ?_
        rcases h with h | h
        · left; simp only [List.lookup_cons, e]; exact h
        · right; simpa [List.lookup_cons, e] using h
      · refine cells_some r _ _ x ?_
        rcases h with h | h
        · exact .inl h
        · right; simpa [List.lookup_cons, e] using h
theorem paramsOk.kind {scope : Scope} {ps : List Str} (h : paramsOk scope ps = true) (n : Nat) : ∀ p ∈ ps, scope.names.lookup p = some .local ∨ (scope.names.lookup p = some .cell ∧ ((cellsFrom n scope.names []).lookup p).isSome = true) := fun p hp => by
  have := List.all_eq_true.mp h p hp
  revert this
  cases hq : scope.names.lookup p with
  | none => simp
  | some k =>
    cases k with
    | cell => intro _; exact .inr ⟨rfl, cells_some _ _ _ _ (.inr hq)⟩
    | «local» => intro _; exact .inl rfl
    | _ => intro z; cases z

/-- what a def's body owes -/
noncomputable def fnQ (R : Res → Prop) : SPost := fun fl _ => match fl with | .ret v => R (.ret v) | .next => R (.ret .none) | _ => False
/-- a def keeps its promise -/
theorem fn_ok {prog : Program} {w : World} {K : Frag} {base : Heap} {mg mb : Str → Option Value} (G : Grd prog w K base mg mb) {kp : Bool} {lvl : Nat} {sp : Spec} {f : Addr} {name qual : Str} {params : Arguments} {body : List Stmt} {scope : Scope} {dV kV doc pm cdv ct oc : Value} {an od : Option Addr} {osl : Array (Option Value)}
    (ho : K.lookup f = some ⟨oc, od, .func (fnOf name qual params body scope dV kV doc pm an cdv ct), osl⟩) (hcd : codeIn K cdv qual = true)
    (ps : List Str) (hb : ∀ vals : List Value, vals.length = ps.length → ∀ s : Shared, K.In s.heap → BindsTo s (fnOf name qual params body scope dV kV doc pm an cdv ct) ⟨vals, []⟩ (ps.zip vals))
    (hps : paramsOk scope ps = true) (nd : ps.Nodup) (tbl : Tbl) (ht : TblOk prog w K base lvl tbl)
    (walk : ∀ ds R, sp ds R → ds.length = ps.length ∧ ∀ D : Dyn, (kp = false → D.hi = none) → (mkC ⟨K, lvl, qual, scope, f, cdv, tbl⟩ D).Ok → (mkC ⟨K, lvl, qual, scope, f, cdv, tbl⟩ D).Own →
      SS (mkC ⟨K, lvl, qual, scope, f, cdv, tbl⟩ D) (fun msg => R (.exc msg)) body ⟨ps.zip ds, none⟩ (fnQ R))
    (hco : scope.isCoroutine = false := by rfl) (hgen : scope.isGenerator = false := by rfl) (hk : scope.kind = .function := by rfl) : FnOk kp prog w base (lvl + 1) f sp := by
  intro A fr s P vals ds R Φ E hh hA hdep hun hst hff hfz hv hsp hΦ hE
  obtain ⟨hlen, walk⟩ := walk ds R hsp
  have hvl : vals.length = ps.length := by rw [hv.length, hlen]
  refine codeAny_call_function (by lia) (hst _ _ (G.KIn _ _ ho)) rfl hco hgen rfl (codeRec_of (G.KIn.keeps hst) hcd) ?_
  refine hb vals hvl s (G.KIn.keeps hst) _ _ _ _ ?_
  have hkd := paramsOk.kind hps
  refine wpAny_newFunctionEnv_cells hk (fun y hy => hkd _ y.1 (List.of_mem_zip hy).1) fun env' he s' x => ?_
  subst he
  refine ⟨(G.nolimit.keeps hst).keeps x.toInCall.keep, codeAny_func ?_⟩
  obtain ⟨h₁, tk, rfl, _⟩ := x.done
  have hk₁ := x.toInCall.keep
  have up₁ : s.heap.UpToSlots h₁ := .of_keeps hk₁
  have st₁ : base.StaysIn h₁ := fun b o e => hk₁ b o (hst b o e)
  generalize hD : ({ prog := prog, w := w, base := base, mg := mg, mb := mb, A := A, fr := fr, hc := s.heap, P₀ := P, L := s.heap.objs.size, hi := if kp = true then some s.heap else none } : Dyn) = D
  generalize hS : (⟨K, lvl, qual, scope, f, cdv, tbl⟩ : Sta) = S at walk
  have e1 : newEnv scope s.heap.objs.size mainGlobals (cellsFrom (s.heap.objs.size + 1) scope.names []) (qual ++ ".<locals>.") (some f) cdv none builtinsNs = (mkC S D).env := by rw [← hS, ← hD]; rfl
  have e2 : A.deeper (mkC S D).env = (mkC S D).A := by rw [← hS, ← hD]; rfl
  have e3 : (mkC S D).prog = prog ∧ (mkC S D).w = w ∧ (mkC S D).base = base ∧ (mkC S D).fr = (mkC S D).env :: fr ∧ (mkC S D).hc = s.heap ∧ (mkC S D).P₀ = P ∧ (mkC S D).hi = (if kp = true then some s.heap else none) ∧ (mkC S D).env.locals = s.heap.objs.size ∧ (mkC S D).env.frame = some s.heap.objs.size ∧ (mkC S D).env.scope = scope := by rw [← hS, ← hD]; exact ⟨rfl, rfl, rfl, rfl, rfl, rfl, rfl, rfl, rfl, rfl⟩
  have hnone : base.get? s.heap.objs.size = none := hst.fresh
  have e4 : (mkC S D).env.cells = cellsFrom (s.heap.objs.size + 1) scope.names [] := by rw [← hS, ← hD]; rfl
  have cellN : ∀ y a, (mkC S D).env.cells.lookup y = some a → s.heap.objs.size < a := fun y a q => by
    have := mem_of_lookup q
    rw [e4] at this
    rcases above_mono _ _ _ _ _ this with z | z
    · cases z
    · exact z
  have freeN : ∀ a : Addr, s.heap.objs.size ≤ a → Free s.heap a := fun a q => .of_none (Heap.get?_none_of_le q)
  have baseN : ∀ a : Addr, s.heap.objs.size ≤ a → base.get? a = none := fun a q => by
    cases z : base.get? a with
    | none => rfl
    | some o => exact absurd (Heap.lt_size (hst _ _ z)) (Nat.not_lt.mpr q)
  have Ok : (mkC S D).Ok := by
    subst hS hD
    refine ⟨hh, by show A.depth + 1 + lvl < _; lia, by show A.units + 3 + 64 * lvl + 200 < _; lia, by show A.frames.map _ = _; rw [hA]; rfl, hk, rfl, rfl, G.KIn, G.g, G.b, G.nolimit, G.bu, Free.size _, hnone, G.vecK, G.refK, fun y kp sp q => ht.get y kp sp q, fun y z a q r => ?_⟩
    exact name_of_addr x.apart (mem_of_lookup q) (mem_of_lookup r)
  have Own : (mkC S D).Own := fun y a q => by
    have lt := cellN y a q
    rw [e3.2.2.1, e3.2.2.2.2.1]
    exact ⟨baseN a (Nat.le_of_lt lt), freeN a (Nat.le_of_lt lt)⟩
  rw [e1] at x ⊢
  rw [e2]
  have hLlt : ∀ a o, P a o → a ≠ s.heap.objs.size := fun a o q => Nat.ne_of_lt ((hfz a o q).1.lt)
  obtain ⟨oL, es, ep, hoL, hdL, hrL⟩ := x.toInCall.ns
  rw [e3.2.2.2.2.2.2.2.1] at hoL
  have ff₁ : h₁.FunFrames base (mkC S D).fr := by
    rw [e3.2.2.2.1]
    refine ⟨by rw [e3.2.2.2.2.2.2.2.2.2, hk]; decide, ⟨_, oL, e3.2.2.2.2.2.2.2.2.1, hnone, hoL, nf_dict hdL⟩, funFrames_up up₁ hff⟩
  have I : Inv (mkC S D) h₁ (bindL (mkC S D).env.kindOf (ps.zip vals) fun _ => none) P 0 ⟨ps.zip ds, none⟩ := by
    refine ⟨by rw [e3.2.2.1]; exact st₁, by rw [e3.2.2.2.2.1]; exact up₁, fun hi q => ?_, by rw [e3.2.2.1]; exact ff₁, x.toInCall.ns, fun a o q => ?_, fun a o q => .inl (by rw [e3.2.2.2.2.2.1]; exact q), fun a o q => by rw [e3.2.2.2.2.2.1] at q; exact q, fun y a q => ?_, fun y d q => ?_, fun y ds q => nomatch q⟩
    · rw [e3.2.2.2.2.2.2.1] at q
      cases kp with
      | false => cases q
      | true => cases q; exact FK.of_keeps hk₁
    · obtain ⟨u, n⟩ := hfz a o q
      exact ⟨u.mono up₁ n, n, by rw [e3.2.2.2.2.2.2.2.1]; exact hLlt a o q⟩
    · have lt := cellN y a q
      refine ⟨by rw [e3.2.2.2.2.2.2.2.1]; exact Nat.ne_of_gt lt, fun o z => ?_, _, x.cell y a q⟩
      exact absurd (hfz a o z).1.lt (Nat.not_lt.mpr (Nat.le_of_lt lt))
    · obtain ⟨v, r, hl, hc⟩ := binds_at (k := (mkC S D).env.kindOf) (m := fun _ => none) (cm := fun _ => none) nd hvl hv q
      refine ⟨v, ?_, r⟩
      have hm : y ∈ ps := by
        have := mem_of_lookup q
        exact (List.of_mem_zip this).1
      rcases hkd (s.heap.objs.size + 1) y hm with z | ⟨z, z'⟩
      · have kk : (mkC S D).env.kindOf y = some .local := by rw [← hS, ← hD]; exact z
        exact .inl ⟨kk, hl kk⟩
      · have kk : (mkC S D).env.kindOf y = some .cell := by rw [← hS, ← hD]; exact z
        obtain ⟨a, ha⟩ := Option.isSome_iff_exists.mp z'
        rw [← e4] at ha
        refine .inr ⟨.inl kk, a, ha, ?_⟩
        have := x.cell y a ha
        rwa [hc (by rw [kk]; decide)] at this
  have hhi : kp = false → D.hi = none := fun q => by rw [← hD, q]; rfl
  have W := walk D hhi Ok Own
  have e5 : model prog w = model (mkC S D).prog (mkC S D).w := by rw [e3.1, e3.2.1]
  rw [e5]
  refine W ⟨h₁, s.gens, s.drawn, tk, s.os⟩ _ P 0 _ _ I (fun fl f' σ' h' tk' m' P' oa' I' g r q => ?_) (fun e msg h' tk' rs xr => ?_)
  · have fin : ∀ v d, VIn P' v d → R (.ret d) → Φ v { s with heap := h', toks := tk' } := fun v d rv q => by
      refine hΦ v d h' tk' P' (e3.2.2.1 ▸ I'.stay) (e3.2.2.2.2.1 ▸ I'.upc) (fun z => ?_) g (fun a o z => ?_) rv q
      · refine I'.itk _ ?_
        rw [e3.2.2.2.2.2.2.1, if_pos z]
      · rcases I'.src a o z with z' | z'
        · rw [e3.2.2.2.2.2.1] at z'; exact .inl z'
        · rw [e3.2.2.2.2.1] at z'
          exact .inr ⟨z', (I'.frz a o z).2.1, (I'.frz a o z).1⟩
    cases r with
    | next => exact fin _ _ .none q
    | brk => exact q.elim
    | cont => exact q.elim
    | ret r => exact fin _ _ r q
  · obtain ⟨a1, a2, a3, a4, _, dx, a0, a5, a6⟩ := rs
    rw [e3.2.2.1] at a1 a3 a4 a6
    rw [e3.2.2.2.2.1] at a2
    rw [e3.2.2.2.1] at a3 a0
    have go : ∀ fl, (fl = none ∨ fl = some .none) → ET base h' e dx fl → wpAny (model (mkC S D).prog (mkC S D).w) (mkC S D).A (leaving (mkC S D).env (.ref e)) (fun _ s'' => E (.ref e) s'') (fun e' s'' => E e' s'') { s with heap := h', toks := tk' } := fun fl hfl hx => by
      refine leave_walk (s := { s with heap := h', toks := tk' }) (outer := fr) ?_ a3 e3.2.2.2.2.2.2.2.2.1 a1 a4 hfl hx (fun en z => a0 en (List.mem_cons_of_mem _ z)) a5 fun h'' u fw => hE e msg h'' tk' fw.1 (a2.trans u) fw xr
      rw [Ok.frames, e3.2.2.2.1]
    rcases a6 with a6 | a6
    · exact go _ (.inr rfl) a6
    · exact go _ (.inl rfl) a6
theorem strKeys_of {es : Array DictEntry} (h : strKeysB es = true) : StrKeys es := fun e he => by
  have := List.all_eq_true.mp h e (Array.mem_toList_iff.mpr he)
  revert this
  cases q : e.key with
  | str n t => intro _; exact ⟨n, t, rfl⟩
  | _ => intro z; cases z
theorem ns_of_K {K : Frag} {h : Heap} (X : K.In h) {a : Addr} {es : Array DictEntry} {n : Nat} {c : Value} {d : Option Addr} {sl : Array (Option Value)} (hl : K.lookup a = some ⟨c, d, .dict es n, sl⟩) (hs : strKeysB es = true) : h.Ns a (nsFind es) :=
  ⟨_, es, n, X _ _ hl, rfl, strKeys_of hs, fun _ => rfl⟩
theorem getL_of {es : Array DictEntry} {x : Str} {v : Value} (h : nsFind es x = some v) : getL x es.toList = some (some v) := by
  unfold getL
  have e : es.find? (fun e => e.key.isStr x) = es.toList.find? (fun e => e.key.isStr x) := by obtain ⟨l⟩ := es; simp
  unfold nsFind findBy at h
  rw [e] at h
  cases hr : es.toList.find? (fun e => e.key.isStr x) with
  | none => rw [hr] at h; cases h
  | some e => rw [hr] at h; cases h; rfl

section
variable {prog : Program} {w : World} {A : Around} {E : Value → Shared → Prop} {h : Heap} {g : Array GenState} {d : Drawn} {t : Nat} {os : OsState} {K : Frag}
theorem ref_tail (X : K.In h) (R : RefK0 K) : OwnTail h [.type "Exception", .type "BaseException", .type "object"] [.ref 31, .type "Exception", .type "BaseException", .type "object"] := by
  obtain ⟨c0, dd, cd, sl, h1, es, n, c, d, sl', h2, h3, h4⟩ := R.up
  exact .own (X _ _ h1) (ns_of_K X h2 h3) h4 .base
/-- Refusal(..): the object is made, then its __init__ is called -/
theorem ref_type_call (X : K.In h) (R : RefK0 K) {rest : List Value} {Q : Fin → Shared → Prop}
    (hq : ∀ h' e, Heap.MadeExcOf h h' e (.ref refC) rest →
      wpAny (model prog w) A (call (.ref 48) (.ref e :: rest)) (fun r s' => r = .none ∧ Q (.done (.ret (.ref e))) s') E ⟨h', g, d, t, os⟩) (hrest : rest.length ≤ sizeLine) :
    wpAny (model prog w) A (Builtin.«type.__call__» ⟨.ref refC :: rest, []⟩) Q E ⟨h, g, d, t, os⟩ := by
  have hC : h.get? refC = some refObj := X _ _ R.cls
  have Fx := PySem.F.excBase_Exception
  have T := ref_tail X R
  repeat (first | with_reducible refine wpAny_loadPart_at hC ?_ | with_reducible refine wpAny_madeBy_exc hC ?_ | wp_step)
  refine codeAny_call_builtin_code (Code.quiet_builtin _ Fx.quiet) (wpAny_check_new_subU Fx (by decide) T hC ?_)
  refine codeAny_exc_new_subU Fx (by decide) Fx T hC ?_ hrest
  show wpAny _ _ _ _ _ _
  generalize hh₁ : ((h.push { cls := .type "tuple", data := .seq rest.toArray }).push { cls := .ref refC, data := .fields #[.ref h.objs.size, .none, .none, .none, .bool false, .none] }) = h₁
  have kk : ∀ b o, h.get? b = some o → h₁.get? b = some o := fun b o e => by rw [← hh₁]; exact Heap.get?_push_of_some _ (Heap.get?_push_of_some _ e)
  have hC₁ := kk _ _ hC
  have X₁ : K.In h₁ := X.keeps kk
  have hget : h₁.get? (h.objs.size + 1) = some { cls := .ref refC, data := .fields #[.ref h.objs.size, .none, .none, .none, .bool false, .none] } := by rw [← hh₁]; heap_get
  have hcC : (Value.ref refC :: [Value.ref 31, .type "Exception", .type "BaseException", .type "object"]).contains (.ref refC) = true := by simp
  unfold isInstance
  repeat (first | with_reducible refine wpAny_loadPart_at hget ?_ | (with_reducible refine wpAny_isSubtype_exc hC₁ ?_; rw [hcC]) | wp_step)
  show wpAny _ _ (typeLookup (.ref refC) _) _ _ _
  refine (looks_findIn X₁ R.init).here ?_
  refine wpAny_holding (wpAny_bind ((bind_fn X₁ _ R.fn).here ?_))
  refine wpAny_bind (wpAny_mono (hq h₁ (h.objs.size + 1) ⟨kk, Heap.get?_none_of_le (Nat.le_succ _), h.objs.size, hget, Heap.get?_none_of_le (Nat.le_refl _), ?_⟩) (fun r s' hr => ?_) fun _ _ x => x)
  · rw [← hh₁]; exact Heap.get?_push_of_some _ (Heap.get?_push_at rfl rfl)
  · obtain ⟨rfl, hQ⟩ := hr
    wp_walk
    exact hQ
theorem ref_call (X : K.In h) (R : RefK0 K) {rest : List Value} {Q : Value → Shared → Prop}
    (hq : ∀ h' e, Heap.MadeExcOf h h' e (.ref refC) rest →
      wpAny (model prog w) (A.under (.builtin "type.__call__" ⟨.ref refC :: rest, []⟩)) (call (.ref 48) (.ref e :: rest)) (fun r s' => r = .none ∧ Q (.ref e) s') E ⟨h', g, d, t, os⟩) (hrest : rest.length ≤ sizeLine) :
    wpAny (model prog w) A (call (.ref refC) rest) Q E ⟨h, g, d, t, os⟩ := by
  have hC : h.get? refC = some refObj := X _ _ R.cls
  have f1 := tc_lookup
  have f2 := tc_bind (.ref refC)
  have hT : (⟨h, g, d, t, os⟩ : Shared).TypeIs (.ref refC) "type" := ⟨_, hC, rfl⟩
  refine wpAny_call (codeAny_of_tree ?_)
  show wpAny _ _ (callAny (.ref refC) _) _ _ _
  repeat (any_goals (first | assumption | with_reducible refine wpAny_loadPart_at hC ?_ | wp_step))
  refine ⟨rfl, ?_⟩
  exact codeAny_call_builtin_at (Code.quiet_builtin _ (by decide +kernel)) entry_typeCall (wpAny_check_type_call_sub hC (ref_type_call X R (fun h' e hm => hq h' e hm) hrest))

/-- e.message = v, the first store into the exception's dict -/
theorem msg_put (X : K.In h) (R : RefK0 K) {e : Addr} {vs : Array Value} {sl : Array (Option Value)} {v : Value} {tk : Tok} {Rs : Result → Shared → Prop} (hx : h.get? e = some ⟨.ref refC, none, .fields vs, sl⟩)
    (hq : ∀ h' tk' dx, h.get? dx = none → (∀ b o, b ≠ e → h.get? b = some o → h'.get? b = some o) → h'.get? e = some ⟨.ref refC, some dx, .fields vs, sl⟩ → h'.Ns1 dx (fun y => if y = "message" then some v else none) → Rs (.ok (.ret .none)) ⟨h', g, d, tk', os⟩) :
    codeAny (model prog w) A (.call (.builtin "object.__setattr__") ⟨[.ref e, .str "message" tk, v], []⟩) Rs ⟨h, g, d, t, os⟩ := by
  have hC : h.get? refC = some refObj := X _ _ R.cls
  have SF := PySem.F.store_Exception
  have ty : Looks (model prog w) h (typeOf (.ref e)) (.ref refC) := (Looks.ld hx).andThen .now
  have mr : Looks (model prog w) h (mroOf (.ref refC)) [.ref refC, .ref 31, .type "Exception", .type "BaseException", .type "object"] := ((Looks.ld (part := none) hC).andThen .now).andThen .now
  have sub : Looks (model prog w) h (isInstance (.ref e) (.type "object")) true := ty.andThen (mr.andThen .now)
  refine codeAny_call_builtin SF.slot.plain SF.entry (@check_slot (model prog w) _ _ _ "object.__setattr__" "object" "__setattr__" (.ref e) [.str "message" tk, v] [] _ SF.kind SF.split sub (SF.args (.ref e) (.str "message" tk) v) ?_)
  rw [osa_eq, refuse_eq]
  refine wpAny_bind (wpAny_bind (ty.here (wpAny_bind (mr.here ?_))))
  rw [refuseLoop_ref, refuseLoop_ref, SF.passes]
  refine wpAny_pure (wpAny_bind (ty.here (wpAny_bind ((looks_findIn X R.no).here ?_))))
  refine wpAny_bind (wpAny_pure ?_)
  show wpAny _ _ (Builtin.ObjectAttr.storeInOwnDict (.ref e) (.ref refC) (.str "message" tk) "message" v false) _ _ _
  unfold Builtin.ObjectAttr.storeInOwnDict
  refine wpAny_bind (wpAny_pure (wpAny_bind ?_))
  show wpAny _ _ (instanceDict e true) _ _ _
  unfold instanceDict
  have hx₁ : (h.push { cls := .type "dict", data := .dict #[] }).get? e = some ⟨.ref refC, none, .fields vs, sl⟩ := Heap.get?_push_of_some _ hx
  have hxs : e ≠ h.objs.size := Nat.ne_of_lt (Heap.lt_size hx)
  refine wpAny_bind (wpAny_loadPart hx ?_)
  have cd : Looks (model prog w) h (classData refC) { name := .ofString "Refusal", bases := [.ref 31], mro := [.ref 51, .ref 31, .type "Exception", .type "BaseException", .type "object"], ns := 50, qualname := .ofString "Refusal" } := (Looks.ld (part := none) hC).andThen .now
  refine wpAny_bind (cd.here ?_)
  refine wpAny_bind (wpAny_alloc' (wpAny_bind (wpAny_update' hx₁ ?_)))
  refine wpAny_pure ?_
  have hgd : ((h.push { cls := .type "dict", data := .dict #[] }).update e fun o => { cls := o.cls, dict := some h.objs.size, data := o.data, slots := o.slots }).get? h.objs.size = some { cls := .type "dict", data := .dict #[] } :=
    (Heap.get?_update_ne _ _ _ _ hxs.symm).trans (Heap.get?_push_at rfl rfl)
  have hnd : ((h.push { cls := .type "dict", data := .dict #[] }).update e fun o => { cls := o.cls, dict := some h.objs.size, data := o.data, slots := o.slots }).Ns h.objs.size (fun _ => none) :=
    ⟨_, #[], _, hgd, rfl, fun e he => absurd he (by simp), fun _ => rfl⟩
  show wpAny _ _ (Builtin.ObjectAttr.storeInDict h.objs.size (.str "message" tk) "message" v) _ _ _
  unfold Builtin.ObjectAttr.storeInDict Builtin.ObjectAttr.newKeyGuard
  refine wpAny_bind (wpAny_pure (wpAny_bind (wpAny_nsSet1 (Heap.Ns1.of_empty hnd) fun h' hn' hs => ?_)))
  obtain ⟨oD, esD, epD, hoD, hdD, hcD⟩ := hn'.count (Within.cons "message" v Within.nil)
  refine wpAny_bind (wpAny_lookBehind hoD (by rw [hdD]; exact pastItsLine_dict (Nat.le_trans hcD (by rw [List.length_cons, List.length_nil, sizeLine_eq]; lia))) ?_)
  refine wpAny_pure (hq h' _ h.objs.size (Heap.get?_none_of_le (Nat.le_refl _)) (fun b o hb e' => ?_) ?_ hn')
  · exact (hs.2 b (Nat.ne_of_lt (Heap.lt_size e'))).trans ((Heap.get?_update_ne _ _ _ _ hb).trans (Heap.get?_push_of_some _ e'))
  · exact (hs.2 e hxs).trans (Heap.get?_update_self _ hx₁ rfl)
theorem msg_store (X : K.In h) (R : RefK0 K) {e : Addr} {vs : Array Value} {sl : Array (Option Value)} {v : Value} {Q : Unit → Shared → Prop} (hx : h.get? e = some ⟨.ref refC, none, .fields vs, sl⟩)
    (hq : ∀ h' tk' dx, h.get? dx = none → (∀ b o, b ≠ e → h.get? b = some o → h'.get? b = some o) → h'.get? e = some ⟨.ref refC, some dx, .fields vs, sl⟩ → h'.Ns1 dx (fun y => if y = "message" then some v else none) → Q () ⟨h', g, d, tk', os⟩) :
    wpAny (model prog w) A (setAttr (.ref e) "message" v) Q E ⟨h, g, d, t, os⟩ := by
  have SF := PySem.F.store_Exception
  have f3 := SF.slot.bind (.ref e)
  have ty : Looks (model prog w) h (typeOf (.ref e)) (.ref refC) := (Looks.ld hx).andThen .now
  unfold setAttr callSpecial? specialOf
  refine wpAny_bind (wpAny_mkText ?_)
  refine wpAny_bind (wpAny_bind (wpAny_bind (ty.here ((looks_findIn X R.sa).here ?_))))
  refine wpAny_holding (wpAny_bind ?_)
  rw [f3]
  refine wpAny_pure (wpAny_bind ?_)
  refine wpAny_call (msg_put X R hx fun h' tk' dx a0 a1 a2 a3 => ?_)
  exact wpAny_pure (wpAny_pure (hq h' tk' dx a0 a1 a2 a3))
end
section
variable {prog : Program} {w : World} {A : Around} {E : Value → Shared → Prop} {env : Env} {K : Frag}
theorem raise_made {s : Shared} {x : Sem Value} {Q : Flow → Shared → Prop} (R : RefK K) (hh : A.handled = none)
    (h : wpAny (model prog w) A x (fun v s₁ => ∃ e dx t sl, v = .ref e ∧ K.In s₁.heap ∧ s₁.heap.get? e = some ⟨.ref refC, some dx, .fields #[t, .none, .none, .none, .bool false, .none], sl⟩ ∧ E (.ref e) s₁) E s) :
    wpAny (model prog w) A (raiseStmt env (some x) none) Q E s := by
  have hcB : (Value.ref refC :: [Value.ref 31, .type "Exception", .type "BaseException", .type "object"]).contains (.type "BaseException") = true := by decide
  unfold raiseStmt
  refine wpAny_bind (wpAny_mono h (fun v s₁ h₁ => ?_) fun _ _ x => x)
  obtain ⟨e, dx, t, sl, rfl, X, he, hE⟩ := h₁
  have hC : s₁.heap.get? refC = some refObj := X _ _ R.cls
  obtain ⟨hp, g, d, tk, os⟩ := s₁
  repeat (first | with_reducible refine wpAny_loadPart_at he ?_ | with_reducible refine wpAny_loadPart_at hC ?_ | (with_reducible refine wpAny_isSubtype_exc hC ?_; rw [hcB]) | wp_step)
  exact wpAny_raiseNew_none hh hE
end
section
variable {c : Ctx} {X : Str → Prop} {σ : S} {Q : SPost} {pos : Pos} {k : Nat}
/-- raise Refusal(text) -/
theorem sx_raise (O : c.Ok) {np cpos : Pos} {e : Expr} (hs : isStar e = false) (hk : c.env.kindOf (.ofString "Refusal") = some .globalImplicit) (hl : 1 ≤ c.lvl)
    (h : EV c X e σ fun d _ => ∃ msg, d = .str msg ∧ X msg) : SX c X (.Raise (some (.Call (.Name (.ofString "Refusal") np) [e] [] cpos)) none pos) σ Q := fun s m P oa Φ E I p xx => by
  rw [arm_exec_Raise]
  simp only [evalOpt, Option.map]
  refine wpAny_bind (wpAny_standAt (raise_made O.refK O.hand (wpAny_bind (wpAny_mono ?_ (fun v s₃ h₃ => wpAny_bind (wpAny_standAt (wpAny_pure h₃))) fun _ _ x => x))))
  refine Call_Name rfl (glob_K O (by decide +kernel) I.stay hk O.refK.glob ?_)
  have hz : (1 : Nat) ≤ sizeLine := by decide
  refine callWith_K (he := starEach_more hs) (O.KIn.keeps I.stay) O.refK.keep (spliced_more (h s m P oa _ E I (fun v d σ₁ h₁ tk₁ m₁ P₁ I₁ g₁ r₁ q₁ => ?_) xx) (starEach_more hs))
  obtain ⟨msg, rfl, q₁⟩ := q₁
  obtain ⟨tx, rfl⟩ := r₁.str_inv
  refine spliced_none ?_
  have XX : c.K.In h₁ := O.KIn.keeps I₁.stay
  refine ⟨XX, ?_⟩
  show wpAny _ _ (call (.ref refC) [.str msg tx]) _ _ _
  refine ref_call XX O.refK.toRefK0 (fun h₂ e' Mk => ?_) hz
  obtain ⟨ta, he, htn, hta⟩ := Mk.there
  have X₂ : c.K.In h₂ := XX.keeps Mk.keeps
  refine O.refK.ini c.prog c.w _ _ ⟨h₂, s.gens, s.drawn, tk₁, s.os⟩ e' _ _ (.str msg tx) _ X₂ (O.nolimit.keeps fun b o z => Mk.keeps _ _ (I₁.stay b o z)) ?_ he fun h₃ tk₃ dx k0 k1 k2 k3 => ?_
  · show c.A.depth + 1 < _
    have := O.depth
    lia
  · have keep : ∀ b o, h₁.get? b = some o → h₃.get? b = some o := fun b o z => k1 b o (fun q => by rw [q, Mk.new] at z; cases z) (Mk.keeps _ _ z)
    have I₃ := I₁.keeps keep
    refine ⟨rfl, e', dx, _, _, rfl, O.KIn.keeps I₃.stay, k2, ?_⟩
    refine xx e' msg h₃ tk₃ ⟨I₃.stay, I₃.upc, I₃.ff, ?_, ⟨_, I₃.ns⟩, dx, fun en z q => ?_, ?_, .inr ⟨_, _, k2, Nat.succ_lt_succ (Nat.succ_pos _), rfl⟩⟩ q₁
    · cases q : c.base.get? e' with
      | none => rfl
      | some o => have := I₁.stay _ _ q; rw [Mk.new] at this; cases this
    · obtain ⟨o', z', _⟩ := frames_at I₁.ff en z dx q
      rw [Mk.keeps _ _ z'] at k0
      cases k0
    · obtain ⟨od, es, n, ho, hd, _, _, hf⟩ := k3
      exact ⟨od, es, n, tx, Up.of ho, hd, getL_of ((hf _).trans (if_pos rfl))⟩
end
section
variable {c : Ctx} {X : Str → Prop} {σ : S} {Q : VPost} {pos : Pos} {k : Nat}
/-- Vector('double', items) -/
theorem ev_vec (O : c.Ok) {np : Pos} {e₁ e₂ : Expr} (ns : noStars [e₁, e₂] = true) (hk : c.env.kindOf (.ofString "Vector") = some .globalImplicit) (hl : 2 ≤ c.lvl)
    (h : EL c X pos [e₁, e₂] σ fun ds σ₁ => ∃ l, ds = [.str (.ofString "double"), .lst l] ∧ Q (.vec l) σ₁) : EV c X (.Call (.Name (.ofString "Vector") np) [e₁, e₂] [] pos) σ Q := fun s m P oa Φ E I p xx => by
  have hs : isStar e₁ = false := by simp only [noStars, Bool.and_eq_true, Bool.not_eq_true'] at ns; exact ns.1
  refine Call_Name rfl (glob_K O (by decide +kernel) I.stay hk O.vecK.glob ?_)
  have hp : (backTo pos (starEach [e₂] c.env)).any (·.1) = false := noStars_plain (by simp only [noStars, Bool.and_eq_true] at ns ⊢; exact ns.2)
  refine callWith_K (he := starEach_more hs) (hplain := hp) (O.KIn.keeps I.stay) O.vecK.keep (h s m P oa _ E I (fun vs ds σ₁ h₁ tk₁ m₁ P₁ I₁ g₁ r₁ q₁ => ?_) xx)
  obtain ⟨l, rfl, q₁⟩ := q₁
  obtain ⟨_, _, rfl, ra, rb⟩ := r₁.two_inv
  obtain ⟨t, rfl⟩ := ra.str_inv
  obtain ⟨ad, ob, vs, n, rfl, pa, ca, da, rl⟩ := rb.lst_inv
  have XX : c.K.In h₁ := O.KIn.keeps I₁.stay
  refine ⟨XX, ?_⟩
  refine O.vecK.new c.prog c.w _ _ ⟨h₁, s.gens, s.drawn, tk₁, s.os⟩ _ _ _ XX (O.nolimit.keeps I₁.stay) (by have := O.depth; lia) fun h₂ tk₂ x dx sl mm k1 k2 k3 k4 k5 k6 k7 => ?_
  obtain ⟨od, es, nn, hod, hdd, _, _, hf⟩ := k5
  have gr : Grows P₁ fun a o => P₁ a o ∨ ((a = x ∧ o = ⟨.ref vecC, some dx, .plain, sl⟩) ∨ (a = dx ∧ o = od)) := fun _ _ z => .inl z
  refine p _ _ σ₁ h₂ tk₂ m₁ _ (I₁.more (fun a o z => k1 _ _ (I₁.stay a o z)) (.of_keeps k1) (fun _ => .of_keeps k1) gr fun a o z => ?_) (g₁.trans gr)
    (.vec (.inr (.inl ⟨rfl, rfl⟩)) rfl rfl rfl (.inr (.inr ⟨rfl, rfl⟩)) (es := es.toList) (n := nn) (by rw [hdd]) (getL_of ((hf _).trans k6)) (getL_of ((hf _).trans k7)) (.inl pa) ca da (rl.mono gr)) q₁
  rcases z with z | ⟨rfl, rfl⟩ | ⟨rfl, rfl⟩
  · exact .inl z
  · exact .inr ⟨.of_none k2, nf_plain rfl, Up.of k4⟩
  · exact .inr ⟨.of_none k3, nf_dict hdd, Up.of hod⟩
end
theorem ref0 (P : Params) : RefK0 (K39 P) where
  cls := rfl
  up := ⟨_, _, _, _, rfl, _, _, _, _, _, rfl, by kernel_rfl, by kernel_rfl⟩
  init := by kernel_rfl
  fn := by kernel_rfl
  sa := by kernel_rfl
  no := by kernel_rfl
  ga := by kernel_rfl
  gt := by kernel_rfl
  dict := by kernel_rfl
  keep := by kernel_rfl
  glob := by kernel_rfl
theorem refI (P : Params) : RefInit (K39 P) := by
  intro prog w A E s e vs sl v Q X hlim hroom he hq
  have ho : (K39 P).lookup 48 = some ⟨_, _, .func (fnOf _ _ _ _ _ _ _ _ _ _ _ _), _⟩ := rfl
  have hcd : codeIn (K39 P) (.ref 47) "Refusal.__init__" = true := by kernel_rfl
  refine wpAny_call (codeAny_call_def (binds := [("self", .ref e), ("message", v)]) hroom (X _ _ ho) rfl hlim (codeRec_of X hcd) rfl (BindsTo.of_eq rfl) (by decide +kernel)
    (List.forall_mem_cons.mpr ⟨by kernel_rfl, List.forall_mem_cons.mpr ⟨by kernel_rfl, List.forall_mem_nil _⟩⟩) (fun h₁ hns hk₁ => ?_))
  have he₁ := hk₁ _ _ he
  have X₁ : (K39 P).In h₁ := X.keeps hk₁
  refine wpAny_execs_cons (plainObj_wpAny_Assign_Attribute (wpAny_Name (wpAny_loadName_local (v := v) rfl (by kernel_rfl) hns (by kernel_rfl) (wpAny_Name (wpAny_loadName_local (v := .ref e) rfl (by kernel_rfl) hns (by kernel_rfl) ?_) (by decide +kernel))) (by decide +kernel)))
  refine msg_store X₁ (ref0 P) he₁ fun h' tk' dx a0 a1 a2 a3 => ?_
  have a0' : s.heap.get? dx = none := by
    cases z : s.heap.get? dx with
    | none => rfl
    | some o => rw [hk₁ _ _ z] at a0; cases a0
  exact wpAny_execs_nil (hq h' tk' dx a0' (fun b o n q => a1 b o n (hk₁ b o q)) a2 a3)
theorem refK (P : Params) : RefK (K39 P) := { ref0 P with ini := refI P }
section
variable {prog : Program} {w : World} {A : Around} {E : Value → Shared → Prop} {h : Heap} {g : Array GenState} {d : Drawn} {t : Nat} {os : OsState} {P : Params}
theorem vec_set (X : (K39 P).In h) {x dx : Addr} {sl : Array (Option Value)} {m : Str → Option Value} {name : Str} {v : Value} {ns : List Str} {Q : Unit → Shared → Prop} (hx : h.get? x = some ⟨.ref vecC, some dx, .plain, sl⟩) (hne : dx ≠ x) (hxC : x ≠ vecC) (hd : h.Ns1 dx m)
    (hn : ∃ es n c dd sl', (K39 P).lookup 239 = some ⟨c, dd, .dict es n, sl'⟩ ∧ strKeysB es = true ∧ nsFind es "__setattr__" = none ∧ nsFind es name = none) (hB : typeLookup (.type "object") name = pure none) (hw : Within m ns) (hz : ns.length ≤ 100)
    (hq : ∀ h' tk', (∀ b o, b ≠ dx → h.get? b = some o → h'.get? b = some o) → h'.get? x = some ⟨.ref vecC, some dx, .plain, sl⟩ → h'.Ns1 dx (fun y => if y = name then some v else m y) → Q () ⟨h', g, d, tk', os⟩) :
    wpAny (model prog w) A (setAttr (.ref x) name v) Q E ⟨h, g, d, t, os⟩ := by
  obtain ⟨es, n, c, dd, sl', h1, h2, h3, h4⟩ := hn
  have hC : h.get? vecC = some (excClassObj (.ofString "Vector") (.ofString "Vector") 240 239 [.type "object"] [.type "object"] true [] [] false none none none none (some (.str (.ofString "Vector") 454)) (some (.str (.ofString "Vector") 462)) (some (.bool true)) "object.__new__") := X _ _ rfl
  have I : h.Inst x vecC m := ⟨_, hx, rfl, fun c => by simp, .inr ⟨dx, rfl, hne, hd⟩⟩
  refine store_attr PySem.F.store_object hC (ns_of_K X h1 h2) h3 h4 hB hxC I (fun h' tk' I' k1 k2 => ?_) hw (by rw [sizeLine_eq]; lia)
  obtain ⟨o₁, e1, e2, e3, e4, e5⟩ := k2 _ hx
  have e5 := e5 dx rfl
  obtain ⟨o, f1, f2, f3, f4⟩ := I'
  rw [e1] at f1; cases f1
  have hx' : h'.get? x = some ⟨.ref vecC, some dx, .plain, sl⟩ := by
    obtain ⟨c1, d1, t1, s1⟩ := o₁
    rw [e1, Option.some.injEq, Obj.mk.injEq]
    exact ⟨e2, e5, e3, e4⟩
  refine hq h' tk' (fun b ob n1 q => ?_) hx' ?_
  · by_cases hb : b = x
    · subst hb; rw [hx] at q; cases q; exact hx'
    · exact k1 b ob hb (fun o₀ dx' z1 z2 => by rw [hx] at z1; cases z1; cases z2; exact n1) q
  · rcases f4 with ⟨f4, _⟩ | ⟨d', f5, f6, f7⟩
    · rw [e5] at f4; cases f4
    · rw [e5] at f5; cases f5; exact f7
end
theorem vecNew (P : Params) : VecNew (K39 P) := by
  intro prog w A E s kv iv Q X hlim hroom hq
  have hm : makesIn (K39 P) vecC = true := by kernel_rfl
  have hi : findIn (K39 P) (.ref vecC) "__init__" = some (some (.ref 230)) := by kernel_rfl
  have hf : typeIn (K39 P) (.ref 230) = some (.type "function") := by kernel_rfl
  obtain ⟨h, g, d, t, os⟩ := s
  refine wpAny_call (make_core (makes_of X hm) (looks_findIn X hi) (fun self => bind_fn X self hf) (.inl rfl) ?_)
  have kk : ∀ b o, h.get? b = some o → ((h.push emptyDict).push (instObj vecC h.objs.size)).get? b = some o := fun b o e => Heap.get?_push_of_some _ (Heap.get?_push_of_some _ e)
  have X₀ : (K39 P).In ((h.push emptyDict).push (instObj vecC h.objs.size)) := X.keeps kk
  have hx₀ : ((h.push emptyDict).push (instObj vecC h.objs.size)).get? (h.objs.size + 1) = some (instObj vecC h.objs.size) := by heap_get
  have hd₀ : ((h.push emptyDict).push (instObj vecC h.objs.size)).get? h.objs.size = some emptyDict := Heap.get?_push_of_some _ (Heap.get?_push_size _ rfl)
  have ho : (K39 P).lookup 230 = some ⟨_, _, .func (fnOf _ _ _ _ _ _ _ _ _ _ _ _), _⟩ := rfl
  have hdf : (K39 P).lookup 223 = some ⟨_, _, .seq #[Value.none] 0, _⟩ := rfl
  have hcd : codeIn (K39 P) (.ref 229) "Vector.__init__" = true := by kernel_rfl
  refine codeAny_call_def (binds := [("self", .ref (h.objs.size + 1)), ("kind", kv), ("items", iv), ("attrs", .none)]) hroom (X₀ _ _ ho) rfl (hlim.keeps kk) (codeRec_of X₀ hcd) rfl (BindsTo.of_defaults rfl (X₀ _ _ hdf) rfl rfl rfl) (by decide +kernel)
    (List.forall_mem_cons.mpr ⟨by kernel_rfl, List.forall_mem_cons.mpr ⟨by kernel_rfl, List.forall_mem_cons.mpr ⟨by kernel_rfl, List.forall_mem_cons.mpr ⟨by kernel_rfl, List.forall_mem_nil _⟩⟩⟩⟩) (fun h₁ hns hk₁ => ?_)
  have hL : ((h.push emptyDict).push (instObj vecC h.objs.size)).objs.size ≠ h.objs.size := by simp only [Heap.size_push]; lia
  have hxC : h.objs.size + 1 ≠ vecC := fun q => by
    have : h.get? (h.objs.size + 1) = none := Heap.get?_none_of_le (Nat.le_succ _)
    rw [q, X _ _ (show (K39 P).lookup vecC = some _ from rfl)] at this
    cases this
  have hne : h.objs.size ≠ h.objs.size + 1 := Nat.ne_of_lt (Nat.lt_succ_self _)
  have K₁ : ∀ b o, h.get? b = some o → h₁.get? b = some o := fun b o e => hk₁ _ _ (kk _ _ e)
  have X₁ : (K39 P).In h₁ := X.keeps K₁
  have hx₁ := hk₁ _ _ hx₀
  have hd₁ : h₁.Ns1 h.objs.size fun _ => none := Heap.Ns1.of_empty ⟨_, #[], _, hk₁ _ _ hd₀, rfl, fun e he => absurd he (by simp), fun _ => rfl⟩
  have old : ∀ b o, h.get? b = some o → b ≠ h.objs.size := fun b o e q => by rw [q, Heap.get?_none_of_le (Nat.le_refl _)] at e; cases e
  refine wpAny_execs_cons (plainObj_wpAny_Assign_Attribute (wpAny_Name (wpAny_loadName_local (v := kv) rfl (by kernel_rfl) hns (by kernel_rfl) (wpAny_Name (wpAny_loadName_local (v := .ref (h.objs.size + 1)) rfl (by kernel_rfl) hns (by kernel_rfl) ?_) (by decide +kernel))) (by decide +kernel)))
  refine vec_set X₁ hx₁ hne hxC hd₁ ⟨_, _, _, _, _, rfl, by kernel_rfl, by kernel_rfl, by kernel_rfl⟩ (by rw [typeLookup_type, builtinLookup_eq_fast]; kernel_rfl) (Within.nil) (by decide) fun h₂ tk2 a1 a2 a3 => ?_
  have K₂ : ∀ b o, h.get? b = some o → h₂.get? b = some o := fun b o e => a1 b o (old b o e) (K₁ b o e)
  have X₂ : (K39 P).In h₂ := X.keeps K₂
  have hx₂ := a2
  have hd₂ := a3
  have hns2 := (let ⟨o, es, ep, e, r⟩ := hns; ⟨o, es, ep, a1 _ _ hL e, r⟩ : h₂.Ns _ _)
  clear a1 a2 a3
  refine wpAny_execs_cons (plainObj_wpAny_Assign_Attribute (wpAny_Name (wpAny_loadName_local (v := iv) rfl (by kernel_rfl) hns2 (by kernel_rfl) (wpAny_Name (wpAny_loadName_local (v := .ref (h.objs.size + 1)) rfl (by kernel_rfl) hns2 (by kernel_rfl) ?_) (by decide +kernel))) (by decide +kernel)))
  refine vec_set X₂ hx₂ hne hxC hd₂ ⟨_, _, _, _, _, rfl, by kernel_rfl, by kernel_rfl, by kernel_rfl⟩ (by rw [typeLookup_type, builtinLookup_eq_fast]; kernel_rfl) (Within.cons "kind" kv (Within.nil)) (by decide) fun h₃ tk3 a1 a2 a3 => ?_
  have K₃ : ∀ b o, h.get? b = some o → h₃.get? b = some o := fun b o e => a1 b o (old b o e) (K₂ b o e)
  have X₃ : (K39 P).In h₃ := X.keeps K₃
  have hx₃ := a2
  have hd₃ := a3
  have hns3 := (let ⟨o, es, ep, e, r⟩ := hns2; ⟨o, es, ep, a1 _ _ hL e, r⟩ : h₃.Ns _ _)
  clear a1 a2 a3
  refine wpAny_execs_cons (plainObj_wpAny_Assign_Attribute (wpAny_Name (wpAny_loadName_local (v := .none) rfl (by kernel_rfl) hns3 (by kernel_rfl) (wpAny_Name (wpAny_loadName_local (v := .ref (h.objs.size + 1)) rfl (by kernel_rfl) hns3 (by kernel_rfl) ?_) (by decide +kernel))) (by decide +kernel)))
  refine vec_set X₃ hx₃ hne hxC hd₃ ⟨_, _, _, _, _, rfl, by kernel_rfl, by kernel_rfl, by kernel_rfl⟩ (by rw [typeLookup_type, builtinLookup_eq_fast]; kernel_rfl) (Within.cons "items" iv (Within.cons "kind" kv (Within.nil))) (by decide) fun h₄ tk4 a1 a2 a3 => ?_
  have K₄ : ∀ b o, h.get? b = some o → h₄.get? b = some o := fun b o e => a1 b o (old b o e) (K₃ b o e)
  have X₄ : (K39 P).In h₄ := X.keeps K₄
  have hx₄ := a2
  have hd₄ := a3
  have hns4 := (let ⟨o, es, ep, e, r⟩ := hns3; ⟨o, es, ep, a1 _ _ hL e, r⟩ : h₄.Ns _ _)
  clear a1 a2 a3
  refine wpAny_execs_cons (plainObj_wpAny_Assign_Attribute (Constant_bool (wpAny_Name (wpAny_loadName_local (v := .ref (h.objs.size + 1)) rfl (by kernel_rfl) hns4 (by kernel_rfl) ?_) (by decide +kernel))))
  refine vec_set X₄ hx₄ hne hxC hd₄ ⟨_, _, _, _, _, rfl, by kernel_rfl, by kernel_rfl, by kernel_rfl⟩ (by rw [typeLookup_type, builtinLookup_eq_fast]; kernel_rfl) (Within.cons "attrs" .none (Within.cons "items" iv (Within.cons "kind" kv (Within.nil)))) (by decide) fun h₅ tk5 a1 a2 a3 => ?_
  have K₅ : ∀ b o, h.get? b = some o → h₅.get? b = some o := fun b o e => a1 b o (old b o e) (K₄ b o e)
  have X₅ : (K39 P).In h₅ := X.keeps K₅
  have hx₅ := a2
  have hd₅ := a3
  have hns5 := (let ⟨o, es, ep, e, r⟩ := hns4; ⟨o, es, ep, a1 _ _ hL e, r⟩ : h₅.Ns _ _)
  clear a1 a2 a3
  refine wpAny_execs_cons (plainObj_wpAny_Assign_Attribute (Constant_bool (wpAny_Name (wpAny_loadName_local (v := .ref (h.objs.size + 1)) rfl (by kernel_rfl) hns5 (by kernel_rfl) ?_) (by decide +kernel))))
  refine vec_set X₅ hx₅ hne hxC hd₅ ⟨_, _, _, _, _, rfl, by kernel_rfl, by kernel_rfl, by kernel_rfl⟩ (by rw [typeLookup_type, builtinLookup_eq_fast]; kernel_rfl) (Within.cons "shared" (.bool false) (Within.cons "attrs" .none (Within.cons "items" iv (Within.cons "kind" kv (Within.nil))))) (by decide) fun h₆ tk6 a1 a2 a3 => ?_
  have K₆ : ∀ b o, h.get? b = some o → h₆.get? b = some o := fun b o e => a1 b o (old b o e) (K₅ b o e)
  have X₆ : (K39 P).In h₆ := X.keeps K₆
  have hx₆ := a2
  have hd₆ := a3
  have hns6 := (let ⟨o, es, ep, e, r⟩ := hns5; ⟨o, es, ep, a1 _ _ hL e, r⟩ : h₆.Ns _ _)
  clear a1 a2 a3
  refine wpAny_execs_nil ⟨rfl, hq h₆ tk6 (h.objs.size + 1) h.objs.size _ _ K₆ (Heap.get?_none_of_le (Nat.le_succ _)) (Heap.get?_none_of_le (Nat.le_refl _)) hx₆ hd₆ ?_ ?_⟩
  · kernel_rfl
  · kernel_rfl
theorem vecK (P : Params) : VecK (K39 P) where
  isv := by kernel_rfl
  get := ⟨by kernel_rfl, by kernel_rfl⟩
  kind := ⟨none, by kernel_rfl, by kernel_rfl⟩
  items := ⟨none, by kernel_rfl, by kernel_rfl⟩
  keep := by kernel_rfl
  glob := by kernel_rfl
  new := vecNew P
section
variable {prog : Program} {w : World} {A : Around} {E : Value → Shared → Prop} {h : Heap} {g : Array GenState} {d : Drawn} {t : Nat} {os : OsState} {K : Frag}
/-- e.message, read -/
theorem msg_get (X : K.In h) (R : RefK0 K) {e dx : Addr} {vs : Array Value} {sl : Array (Option Value)} {od : Obj} {msg : Str} {tk : Tok} {Q : Value → Shared → Prop} (hx : h.get? e = some ⟨.ref refC, some dx, .fields vs, sl⟩)
    (hd : h.get? dx = some od) (hl : lookIn "message" od = some (some (.str msg tk))) (hq : ∀ tk', Q (.str msg tk) ⟨h, g, d, tk', os⟩) :
    wpAny (model prog w) A (getAttr (.ref e) "message" true) Q E ⟨h, g, d, t, os⟩ := by
  have FB := PySem.F.attrBase_Exception
  have hC : h.get? refC = some refObj := X _ _ R.cls
  have I : InstAt h e ⟨.ref refC, some dx, .fields vs, sl⟩ refC (some od) := ⟨hx, rfl, rfl, hd⟩
  have f3 := FB.ga.bind (.ref e)
  have hx0 : (true && onTheHeap (Value.builtin "BaseException.__getattribute__")) = false := rfl
  have hx2 : (Value.builtin "BaseException.__getattribute__" == Value.builtin "object.__getattribute__") = false := by decide +kernel
  have hx1 : (onTheHeap (Value.ref refC) && Value.builtin "BaseException.__getattribute__" == Value.builtin "object.__getattribute__") = false := by rw [hx2]; rfl
  have hf : findObj K refC (some od) "message" = some (.value (.str msg tk)) := findObj_own R.dict R.no rfl hl
  have L1 := looks_find (M := model prog w) X I hf
  have ty : Looks (model prog w) h (typeOf (.ref e)) (.ref refC) := (Looks.ld hx).andThen .now
  have mr : Looks (model prog w) h (mroOf (.ref refC)) [.ref refC, .ref 31, .type "Exception", .type "BaseException", .type "object"] := ((Looks.ld (part := none) hC).andThen .now).andThen .now
  have sub : Looks (model prog w) h (isInstance (.ref e) (.type "BaseException")) true := ty.andThen (mr.andThen .now)
  have hk : builtinKind "BaseException.__getattribute__" = some .slot := by decide +kernel
  have hsplit : splitId "BaseException.__getattribute__" = some ("BaseException", "__getattribute__") := by decide +kernel
  unfold getAttr
  refine wpAny_bind (wpAny_mkText ?_)
  repeat (any_goals (first | assumption | (with_reducible refine wpAny_loadPart_at hx ?_) | (with_reducible refine (looks_findIn X R.ga).here ?_) | (with_reducible refine (looks_findIn X R.gt).here ?_) | wp_step))
  refine codeAny_call_builtin FB.ga.plain PySem.F.entry_bexc_ga (@check_slot (model prog w) _ _ _ "BaseException.__getattribute__" "BaseException" "__getattribute__" (.ref e) [.str "message" t] [] _ hk hsplit sub (PySem.F.args_bexc_ga (.ref e) (.str "message" t)) ?_)
  unfold Builtin.«object.__getattribute__»
  refine wpAny_bind (wpAny_pure (wpAny_bind (wpAny_pure (wpAny_bind (ty.here (wpAny_bind (L1.here ?_)))))))
  refine wpAny_pure ?_
  show wpAny _ _ (handedOut (.str msg tk)) _ _ _
  rw [handedOut_of rfl]
  exact wpAny_pure (hq _)
end
theorem upd_drop (h : Heap) (L : Addr) : (dropAt h L).UpToSlots h := fun b o e _ => by
  by_cases q : b = L
  · subst q; rw [dropAt_self] at e; cases e
  · rw [dropAt_ne h q] at e; exact ⟨o.slots, e⟩
/-- the frame, seen from now on -/
noncomputable def Ctx.anew (c : Ctx) (h : Heap) (P : Fz) : Ctx := { c with hc := dropAt h c.env.locals, P₀ := P }
theorem Ctx.Ok.anew {c : Ctx} (O : c.Ok) (h : Heap) (P : Fz) : (c.anew h P).Ok := ⟨O.1, O.2, O.3, O.4, O.5, O.6, O.7, O.8, O.9, O.10, O.11, O.12, Free.of_none (dropAt_self h _), O.14, O.15, O.16, O.17, O.18⟩
section
variable {c : Ctx} {X : Str → Prop} {σ : S} {Q : SPost} {pos : Pos} {k : Nat}
/-- try: .. except Refusal as n: return n.message -/
theorem sx_try (O : c.Ok) (hno : σ.own = none) (hcl : c.env.cells = []) (hhi : c.hi = none) (hf : c.env.frame = some c.env.locals) {fr' : List Env} (hfr : c.fr = c.env :: fr') {n : Str} {np p1 p2 p3 p4 hp tp : Pos} (hk : c.env.kindOf (.ofString "Refusal") = some .globalImplicit) (hn : c.env.kindOf n = some .local) (okn : okName n = true) {body : List Stmt}
    (h : ∀ hh P, SS (c.anew hh P) (fun msg => Q (.ret (.str msg)) ⟨[], none⟩) body σ Q) :
    SX c X (.Try body [.ExceptHandler (some (.Name (.ofString "Refusal") p1)) (some n) [.Return (some (.Attribute (.Name n p2) (.ofString "message") p3)) p4] hp] [] [] tp) σ Q := fun s m P oa Φ E I p xx => by
  have I' : Inv (c.anew s.heap P) s.heap m P oa σ := by
    refine ⟨I.stay, upd_drop _ _, I.itk, I.ff, I.ns, I.frz, fun a o q => .inl q, fun a o q => q, I.cel, I.vars, fun y ds q => ?_⟩
    rw [hno] at q; cases q
  have upc : ∀ h', (dropAt s.heap c.env.locals).UpToSlots h' → c.hc.UpToSlots h' := fun h' u b o e nf => by
    obtain ⟨sl, e'⟩ := I.upc b o e nf
    have nL : b ≠ c.env.locals := fun q => O.Lf o (q ▸ e) nf
    obtain ⟨sl', e''⟩ := u b _ ((dropAt_ne s.heap nL).trans e') nf
    exact ⟨sl', e''⟩
  have upP : ∀ h', (dropAt s.heap c.env.locals).UpToSlots h' → ∀ a o, P a o → Up h' a o := fun h' u a o q => by
    obtain ⟨⟨sl, e⟩, nf, nL⟩ := I.frz a o q
    obtain ⟨sl', e'⟩ := u a _ ((dropAt_ne s.heap nL).trans e) nf
    exact ⟨sl', e'⟩
  refine wpAny_Try_except (h s.heap P s m P oa _ _ I' (fun f f' σ' h' tk' m' P' oa' J g r q => ?_) (fun e msg h' tk' rs q => ?_))
  · have J' : Inv c h' m' P' oa' σ' := by
      refine ⟨J.stay, upc _ J.upc, J.itk, J.ff, J.ns, J.frz, fun a o z => ?_, fun a o z => g _ _ (I.old a o z), J.cel, J.vars, fun y ds z => ?_⟩
      · rcases J.src a o z with z | z
        · exact I.src a o z
        · refine .inr fun o' e nf => ?_
          obtain ⟨sl, e'⟩ := I.upc a o' e nf
          have nL : a ≠ c.env.locals := fun w => O.Lf o' (w ▸ e) nf
          exact z _ ((dropAt_ne s.heap nL).trans e') nf
      · obtain ⟨b1, b2, b3, b4⟩ := J.own y ds z
        refine ⟨b1, b2, fun o' e nf => ?_, b4⟩
        obtain ⟨sl, e'⟩ := I.upc oa' o' e nf
        have nL : oa' ≠ c.env.locals := fun w => O.Lf o' (w ▸ e) nf
        exact b3 _ ((dropAt_ne s.heap nL).trans e') nf
    cases r with
    | next => exact wpAny_execs_nil (p _ _ σ' h' tk' m' P' oa' J' g .next q)
    | brk => exact p _ _ σ' h' tk' m' P' oa' J' g .brk q
    | cont => exact p _ _ σ' h' tk' m' P' oa' J' g .cont q
    | ret r => exact p _ _ σ' h' tk' m' P' oa' J' g (.ret r) q
  · obtain ⟨b1, b2, b3, b4, ⟨m', b5⟩, dx, b0, b6, b7⟩ := rs
    have dL : dx ≠ c.env.locals := fun w => b0 c.env (by show c.env ∈ c.fr; rw [hfr]; exact List.mem_cons_self) (by rw [hf, w])
    have b1 : c.base.StaysIn h' := b1
    have b3 : h'.FunFrames c.base c.fr := b3
    have b4 : c.base.get? e = none := b4
    have b5 : h'.Ns c.env.locals m' := b5
    have b2 : (dropAt s.heap c.env.locals).UpToSlots h' := b2
    rw [hfr] at b3
    have hA : c.A.frames = some (c.env :: fr') := by rw [O.frames, hfr]
    have note : ∀ fl, (fl = none ∨ fl = some .none) → ET c.base h' e dx fl → wpAny (model c.prog c.w) c.A (noteFrame (.ref e) c.env) (fun _ s₂ => wpAny (model c.prog c.w) c.A (setFlight (.ref e) none) (fun _ s₃ => wpAny (model c.prog c.w) c.A (handleBy (.ref e) c.env [.ExceptHandler (some (.Name (.ofString "Refusal") p1)) (some n) [.Return (some (.Attribute (.Name n p2) (.ofString "message") p3)) p4] hp]) Φ E s₃) E s₂) E { s with heap := h', toks := tk' } := fun fl hfl hx => by
      refine note_walk (s := { s with heap := h', toks := tk' }) hA b3 hf b1 b4 hfl hx fun h₁ c1 c2 c3 c4 => ?_
      refine flight_walk (s := { s with heap := h₁, toks := tk' }) c2 c1 c4 fun h₂ d1 d2 d3 d4 => ?_
      have X₂ : c.K.In h₂ := O.KIn.keeps d1
      have hC : h₂.get? refC = some refObj := X₂ _ _ O.refK.cls
      obtain ⟨vs, sl, he, hsz, hT⟩ := id d4
      refine wpAny_handleBy_cons (codeAny_handlers_test (Calls.Name_function_global O.kind hk (Calls.loadGlobal_global (by rw [O.glob]; exact O.g.keeps d1) (mg_of O.KIn O.g O.refK.glob) ?_) (by decide +kernel))) (by intro q; cases q)
      refine wpAny_excMatches_sub_self (bm := [.ref 31, .type "Exception", .type "BaseException", .type "object"]) hC he rfl (by decide) (codeAny_handlers_suite_as ?_)
      refine flight_walk (s := { s with heap := h₂, toks := _ }) d2 d1 d4 fun h₃ e1 e2 e3 e4 => ?_
      have ns₃ : h₃.Ns c.env.locals m' := e3.ns (d3.ns (c3.ns b5))
      refine wpAny_storeName_local hn ns₃ (fun h₄ hn₄ hs₄ => ?_) (notCls O)
      have hL : ∀ o, h₃.get? c.env.locals = some o → NF o := fun o z => by obtain ⟨_, _, _, z', zd, _⟩ := ns₃; rw [z'] at z; cases z; exact nf_dict zd
      obtain ⟨vs₃, sl₃, he₃, _, _⟩ := e4
      have neL : e ≠ c.env.locals := fun w => by have := hL _ (w ▸ he₃); exact this vs₃ rfl
      have he₄ := (hs₄.2 e neL).trans he₃
      have st₄ : c.base.StaysIn h₄ := fun b o z => (hs₄.2 b (fun w => by rw [w, O.Lb] at z; cases z)).trans (e1 b o z)
      have X₄ : c.K.In h₄ := O.KIn.keeps st₄
      obtain ⟨od, es, nn, t, u, hd, hl⟩ := ((b6.up c3).up d3).up e3
      obtain ⟨sld, hod⟩ := u
      have hod₄ := (hs₄.2 dx dL).trans hod
      refine wpAny_execs_cons (wpAny_Return_some (Attribute_name (wpAny_Name (wpAny_loadName_local (v := .ref e) O.kind hn hn₄ (by simp) ?_) (okName.deb okn))))
      refine msg_get (od := { od with slots := sld }) X₄ O.refK.toRefK0 he₄ hod₄ (by unfold lookIn; rw [show ({ od with slots := sld } : Obj).data = od.data from rfl, hd]; exact hl) fun tk' => ?_
      refine wpAny_nameGoes hn hn₄ (notCls O) fun h₅ m₅ hn₅ hs₅ => ?_
      have hL₄ : ∀ o, h₄.get? c.env.locals = some o → NF o := fun o z => by obtain ⟨_, _, _, z', zd, _⟩ := hn₄; rw [z'] at z; cases z; exact nf_dict zd
      have st₅ : c.base.StaysIn h₅ := fun b o z => (hs₅.2 b (fun w => by rw [w, O.Lb] at z; cases z)).trans (st₄ b o z)
      have up3 : (dropAt s.heap c.env.locals).UpToSlots h₃ := ((b2.trans c3).trans d3).trans e3
      have up5 : (dropAt s.heap c.env.locals).UpToSlots h₅ := fun b o z nf => by
        have nL : b ≠ c.env.locals := fun w => by rw [w, dropAt_self] at z; cases z
        obtain ⟨slb, zb⟩ := up3 b o z nf
        exact ⟨slb, (hs₅.2 b nL).trans ((hs₄.2 b nL).trans zb)⟩
      obtain ⟨o₄, _, _, z₄, d₄, _⟩ := id hn₄
      obtain ⟨o₅, _, _, z₅, d₅, _⟩ := id hn₅
      have ff₅ : h₅.FunFrames c.base c.fr := by
        rw [hfr]
        exact funFrames_nf (nf_keep hs₅ z₅ (nf_dict d₅)) (funFrames_nf (nf_keep hs₄ z₄ (nf_dict d₄)) e2)
      refine p _ (.ret (.str msg)) ⟨[], none⟩ h₅ _ m₅ P 0 ⟨st₅, upc _ up5, (fun hi q => by rw [hhi] at q; cases q), ff₅, hn₅, fun a o z => ⟨upP _ up5 a o z, (I.frz a o z).2⟩, I.src, I.old, (fun y a z => by rw [hcl] at z; simp at z), (fun y d z => by simp at z), fun y ds z => nomatch z⟩ (Grows.refl P) (.ret (.str msg _)) q
    rcases b7 with b7 | b7
    · exact note _ (.inr rfl) b7
    · exact note _ (.inl rfl) b7
end
theorem ofStr_beq (a b : String) : (Str.ofString a == Str.ofString b) = (a == b) := by
  by_cases h : a = b
  · subst h; simp
  · have : Str.ofString a ≠ Str.ofString b := fun e => h (by
      rw [Str.ofString_eq_byList] at e
      unfold Str.ofStringByList at e
      have e := congrArg Array.toList (Str.mk.inj e)
      simp only at e
      have inj : ∀ {l m : List Char}, l.map Char.toNat = m.map Char.toNat → l = m := fun {l m} q => List.map_inj_right (fun x y z => Char.toNat_inj.mp z) |>.mp q
      exact String.toList_inj.mp (inj e))
    rw [beq_eq_false_iff_ne.mpr this, beq_eq_false_iff_ne.mpr h]
section
variable {c : Ctx} {X : Str → Prop} {σ : S} {Q : VPost} {pos : Pos} {k : Nat}
/-- isinstance(v, Vector) -/
theorem ev_isvec (O : c.Ok) {p p₂ : Pos} {e : Expr} (hs : isStar e = false) (hk : c.env.kindOf (.ofString "isinstance") = some .globalImplicit) (hg : nsIn c.K mainGlobals (.ofString "isinstance") = some none) (hk' : c.env.kindOf (.ofString "Vector") = some .globalImplicit)
    (h : EV c X e σ fun d σ₁ => (∃ l, d = .vec l) ∧ Q (.bool true) σ₁) : EV c X (.Call (.Name (.ofString "isinstance") p) [e, .Name (.ofString "Vector") p₂] [] pos) σ Q := fun s m P oa Φ E I pp xx => by
  refine Call_Name rfl (glob_B O (by decide +kernel) I.stay hk hg (show bootBuiltins (.ofString "isinstance") = some (.builtin "isinstance") by decide +kernel) (by decide +kernel) ?_)
  refine callWith_builtin1 (spliced_more (h s m P oa _ E I (fun v d σ₁ h₁ tk₁ m₁ P₁ I₁ g₁ r₁ q₁ => ?_) xx) (starEach_more hs)) (starEach_more hs) rfl
  obtain ⟨⟨l, rfl⟩, q₁⟩ := q₁
  refine spliced_more (glob_K O (by decide +kernel) I₁.stay hk' O.vecK.glob ?_) rfl
  refine spliced_none ?_
  obtain ⟨x, dx, l, o, od, ol, es, n, k, vs, t, rfl, pa, ca, dda, da, pd, dd, gk, gi, pl, cl, dl, ra⟩ := r₁.vec_inv
  ·
    obtain ⟨sl, ua⟩ := (I₁.frz _ _ pa).1
    refine isi_call (t := .ref vecC) (O.KIn.keeps I₁.stay) (fun M => by have z : Looks M h₁ (typeOf (.ref x)) o.cls := (Looks.ld ua).andThen .now
                                                                        rw [ca] at z; exact z) O.vecK.isv (by intro z; cases z) ?_
    exact pp _ _ σ₁ h₁ tk₁ m₁ P₁ I₁ g₁ (.bool true) q₁
/-- isinstance(False, list) -/
theorem ev_islist (O : c.Ok) {p p₂ : Pos} {e : Expr} (hs : isStar e = false) (hk : c.env.kindOf (.ofString "isinstance") = some .globalImplicit) (hg : nsIn c.K mainGlobals (.ofString "isinstance") = some none) (hk' : c.env.kindOf (.ofString "list") = some .globalImplicit) (hg' : nsIn c.K mainGlobals (.ofString "list") = some none)
    (h : EV c X e σ fun d σ₁ => (∃ b, d = .bool b) ∧ Q (.bool false) σ₁) : EV c X (.Call (.Name (.ofString "isinstance") p) [e, .Name (.ofString "list") p₂] [] pos) σ Q := fun s m P oa Φ E I pp xx => by
  refine Call_Name rfl (glob_B O (by decide +kernel) I.stay hk hg (show bootBuiltins (.ofString "isinstance") = some (.builtin "isinstance") by decide +kernel) (by decide +kernel) ?_)
  refine callWith_builtin1 (spliced_more (h s m P oa _ E I (fun v d σ₁ h₁ tk₁ m₁ P₁ I₁ g₁ r₁ q₁ => ?_) xx) (starEach_more hs)) (starEach_more hs) rfl
  obtain ⟨⟨b, rfl⟩, q₁⟩ := q₁
  obtain rfl := r₁.bool_inv
  refine spliced_more (glob_B O (by decide +kernel) I₁.stay hk' hg' (show bootBuiltins (.ofString "list") = some (.type "list") by decide +kernel) (by decide +kernel) ?_) rfl
  refine spliced_none ?_
  exact IsiPair.bool_list (pp _ _ σ₁ h₁ _ m₁ P₁ I₁ g₁ (.bool false) q₁)
end
/-- names of a comprehension, as a check -/
theorem CompNames.of {env : Env} {scope : Scope} {cl : List (Str × Addr)} {x : Str} (clos : closureFor scope env = pure cl) (kind : scope.kind = .function)
    (names : (scope.names.all fun y => y.2 != .cell && (y.2 != .local || scope.names.lookup y.1 == some .local)) = true) (hx : scope.names.lookup x = some .local)
    (outer : ∀ p ∈ cl, env.cells.lookup p.1 = some p.2 ∧ (env.kindOf p.1 = some .cell ∨ env.kindOf p.1 = some .free) ∧ ((relabel scope env).names.lookup p.1 = some .cell ∨ (relabel scope env).names.lookup p.1 = some .free)) : CompNames env scope cl x where
  clos := clos
  cell := fun y hy => by
    have := List.all_eq_true.mp names y hy
    simp only [Bool.and_eq_true, bne_iff_ne] at this
    exact this.1
  kind := kind
  names := fun y hy hl => by
    have := List.all_eq_true.mp names y hy
    simp only [Bool.and_eq_true, Bool.or_eq_true, bne_iff_ne, beq_iff_eq] at this
    exact this.2.resolve_left fun z => z hl
  x := hx
  outer := fun y a h => outer (y, a) (mem_of_lookup h)
theorem fnQ_ret {R : Res → Prop} {v : V} {σ : S} (h : R (.ret v)) : fnQ R (.ret v) σ := h
theorem fnQ_next {R : Res → Prop} {σ : S} (h : R (.ret .none)) : fnQ R .next σ := h

/-- names of a frame, by their kinds -/
structure NF' (c : Ctx) (loc cel glo : List Str) : Prop where
  loc : ∀ x ∈ loc, c.env.kindOf x = some .local
  cel : ∀ x ∈ cel, c.env.kindOf x = some .cell ∧ c.Own ∧ (c.env.cells.lookup x).isSome = true
  glo : ∀ x ∈ glo, c.env.kindOf x = some .globalImplicit
noncomputable def nfCheck (names : List (Str × NameKind)) (loc cel glo : List Str) : Bool :=
  (loc.all fun x => names.lookup x == some .local) && (cel.all fun x => names.lookup x == some .cell) && glo.all fun x => names.lookup x == some .globalImplicit
theorem NF'.of {St : Sta} {D : Dyn} {loc cel glo : List Str} (own : (mkC St D).Own) (h : nfCheck St.scope.names loc cel glo = true) : NF' (mkC St D) loc cel glo := by
  simp only [nfCheck, Bool.and_eq_true, List.all_eq_true, beq_iff_eq] at h
  exact ⟨h.1.1, fun x hx => ⟨h.1.2 x hx, own, cells_some _ _ _ _ (.inr (h.1.2 x hx))⟩, h.2⟩
theorem NF'.hold {c : Ctx} {loc cel glo : List Str} (N : NF' c loc cel glo) (h : Heap) : NF' (c.hold h) loc cel glo := ⟨N.1, N.2, N.3⟩
theorem NF'.anew {c : Ctx} {loc glo : List Str} (N : NF' c loc [] glo) (h : Heap) (P : Fz) : NF' (c.anew h P) loc [] glo := ⟨N.1, fun x hx => (nomatch hx), N.3⟩
/-- built-in names that the text leaves alone -/
noncomputable def Bui (K : Frag) : Prop := ∀ x ∈ ([.ofString "abs", .ofString "len", .ofString "max", .ofString "str", .ofString "int", .ofString "list", .ofString "sorted", .ofString "range", .ofString "isinstance"] : List Str), nsIn K mainGlobals x = some none

theorem Bui.get {K : Frag} (h : Bui K) {x : Str} (m : x ∈ ([.ofString "abs", .ofString "len", .ofString "max", .ofString "str", .ofString "int", .ofString "list", .ofString "sorted", .ofString "range", .ofString "isinstance"] : List Str)) : nsIn K mainGlobals x = some none := h x m
theorem ite_dec {p : Prop} [Decidable p] {A B : Prop} (h1 : p → A) (h2 : ¬ p → B) : if decide p = true then A else B := by
  by_cases h : p
  · rw [if_pos (decide_eq_true h)]; exact h1 h
  · rw [if_neg (by simpa using h)]; exact h2 h
theorem ite_beq {α : Type} [BEq α] [LawfulBEq α] {x y : α} {A B : Prop} (h1 : x = y → A) (h2 : x ≠ y → B) : if (x == y) = true then A else B := by
  split
  · rename_i h; exact h1 (by simpa using h)
  · rename_i h; exact h2 (by simpa using h)
theorem ite_bne {α : Type} [BEq α] [LawfulBEq α] {x y : α} {A B : Prop} (h1 : x ≠ y → A) (h2 : x = y → B) : if (x != y) = true then A else B := by
  split
  · rename_i h; exact h1 (by simpa using h)
  · rename_i h; exact h2 (by simpa using h)
theorem ite_not {b : Bool} {A B : Prop} (h : if b = true then B else A) : if (!b) = true then A else B := by cases b <;> exact h
theorem ite_tt {A B : Prop} (h : A) : if true = true then A else B := by rw [if_pos rfl]; exact h
theorem ite_ff {A B : Prop} (h : B) : if false = true then A else B := by rw [if_neg (by decide)]; exact h
theorem ite_b {b : Bool} {A B : Prop} (h1 : b = true → A) (h2 : b = false → B) : if b = true then A else B := by cases b <;> simp_all

section
variable {c : Ctx} {X : Str → Prop} {σ : S} {pos : Pos} {k : Nat} {rest : List Stmt}
/-- one statement, then the rest -/
noncomputable def thenQ (c : Ctx) (X : Str → Prop) (rest : List Stmt) (Q : SPost) : SPost := fun f σ₁ => match f with | .next => SS c X rest σ₁ Q | f => Q f σ₁
theorem thenQ_next {Q : SPost} (h : SS c X rest σ Q) : thenQ c X rest Q .next σ := h
theorem thenQ_ret {Q : SPost} {v : V} (h : Q (.ret v) σ) : thenQ c X rest Q (.ret v) σ := h
theorem thenQ_cont {Q : SPost} (h : Q .cont σ) : thenQ c X rest Q .cont σ := h
theorem ss_one {Q : SPost} {st : Stmt} (h : SX c X st σ (thenQ c X rest Q)) : SS c X (st :: rest) σ Q := ss_cons h
theorem ss_assign {Q : SPost} {x : Str} {xp : Pos} {e : Expr} (O : c.Ok) (hc : isComp e = false) (hx : Bindable c x) (h : EV c X e σ fun d σ₁ => SS c X rest (σ₁.put x d) Q) : SS c X (.Assign [.Name x xp] e pos :: rest) σ Q := ss_cons (sx_assign O hc hx h)
theorem ss_aug {Q : SPost} {x : Str} {xp : Pos} {e : Expr} {i : Int} (O : c.Ok) (ok : okName x = true) (hx : Bindable c x) (hv : σ.vars.lookup x = some (.int i)) (h : EV c X e σ fun d σ₁ => ∃ j, d = .int j ∧ SS c X rest (σ₁.put x (.int (i + j))) Q) : SS c X (.AugAssign (.Name x xp) .Add e pos :: rest) σ Q := ss_cons (sx_aug O ok hx hv h)
theorem ss_list {Q : SPost} {x : Str} {xp p₀ : Pos} {es : List Expr} (O : c.Ok) (hx : c.env.kindOf x = some .local) (h : EL c X p₀ es σ fun ds σ₁ => ds.length ≤ 1000000 ∧ SS c X rest (σ₁.mk' x ds) Q) : SS c X (.Assign [.Name x xp] (.List es p₀) pos :: rest) σ Q := ss_cons (sx_list O hx h)
theorem ss_ret {Q : SPost} {e : Expr} (h : EV c X e σ fun d σ₁ => Q (.ret d) σ₁) : SS c X (.Return (some e) pos :: rest) σ Q := ss_cons (sx_ret h)
theorem ss_if {Q : SPost} {t : Expr} {b o : List Stmt} (h : EB c X t σ fun k σ₁ => if k = true then SS c X b σ₁ (thenQ c X rest Q) else SS c X o σ₁ (thenQ c X rest Q)) : SS c X (.If t b o pos :: rest) σ Q := ss_cons (sx_if h)
/-- an if without an else -/
theorem ss_if0 {Q : SPost} {t : Expr} {b : List Stmt} (h : EB c X t σ fun k σ₁ => if k = true then SS c X b σ₁ (thenQ c X rest Q) else SS c X rest σ₁ Q) : SS c X (.If t b [] pos :: rest) σ Q := by
  refine ss_if fun s m P oa Φ E I p x => h s m P oa Φ E I (fun b σ' h' tk' m' P' I' g q => p b σ' h' tk' m' P' I' g ?_) x
  cases b with
  | true => exact q
  | false => exact ss_nil q
theorem ss_cont {Q : SPost} (q : Q .cont σ) : SS c X (.Continue pos :: rest) σ Q := ss_cons (sx_cont q)
theorem ss_unpack {Q : SPost} {es : List Expr} {xs : List Str} {tp : Pos} {e : Expr} (O : c.Ok) (hn : NameL es xs) (hb : ∀ x ∈ xs, Bindable c x) (hc : isComp e = false) (ht : ∀ env : Env, swappedStores [.Tuple es k tp] e env = pure none)
    (h : EV c X e σ fun d σ₁ => ∃ ds σ', d = .tup ds ∧ putAll xs ds σ₁ = some σ' ∧ SS c X rest σ' Q) : SS c X (.Assign [.Tuple es k tp] e pos :: rest) σ Q := ss_cons (sx_unpack O hn hb hc ht h)
theorem ss_lth {Q : SPost} {b : Lth} {n x : Str} {xp apos p₀ : Pos} {e : Expr} {es : List Expr} {ds : List V} (O : c.Ok) (hb : b.name = n) (ok : okName x = true) (hx : σ.own = some (x, ds)) (ns : noStars (e :: es) = true) (few : es.length < 20) (hline : (apos.endLine == p₀.line) = true)
    (h : EL c X p₀ (e :: es) σ fun args σ₁ => ∃ ds, σ₁.own = some (x, ds) ∧ lthR b ds args fun ds' => SS c X rest ⟨σ₁.vars, some (x, ds')⟩ Q) : SS c X (.Expr (.Call (.Attribute (.Name x xp) n apos) (e :: es) [] p₀) pos :: rest) σ Q := by
  subst hb; exact ss_cons (sx_lth O ok hx ns few hline h)
end

section
variable {c : Ctx} {X : Str → Prop} {σ : S} {Q : VPost} {B : Bool → S → Prop} {R : V → Prop} {pos : Pos} {k : Nat}
noncomputable def callQ (Q : VPost) (X : Str → Prop) (σ : S) : Res → Prop := fun r => match r with | .ret v => Q v σ | .exc msg => X msg
theorem callQ_ret {v : V} (h : Q v σ) : callQ Q X σ (.ret v) := h
theorem callQ_exc {m : Str} (h : X m) : callQ Q X σ (.exc m) := h
theorem ev_fn (O : c.Ok) {x : Str} {p : Pos} {e : Expr} {es : List Expr} {sp : Spec} {kp : Bool} (hf : c.fn x = some (kp, sp)) (ok : okName x = true) (ns : noStars (e :: es) = true) (hk : c.env.kindOf x = some .globalImplicit) (hkp : kp = true ∨ c.hi = none)
    (h : EL c X pos (e :: es) σ fun ds σ₁ => sp ds (callQ Q X σ₁)) : EV c X (.Call (.Name x p) (e :: es) [] pos) σ Q := ev_call O ok ns hk hf hkp h
-- operators
theorem bin_add {x y : Int} (q : R (.int (x + y))) : binR .Add (.int x) (.int y) R := .add q
theorem bin_sub {x y : Int} (q : R (.int (x - y))) : binR .Sub (.int x) (.int y) R := .sub q
theorem bin_mul {x y : Int} (h : x.natAbs < 2 ^ 64 ∨ y.natAbs < 2 ^ 64) (q : R (.int (x * y))) : binR .Mult (.int x) (.int y) R := .mul h q
theorem bin_div {x y : Int} (h : y ≠ 0 ∧ y.natAbs < 2 ^ 64) (q : R (.int (x.fdiv y))) : binR .FloorDiv (.int x) (.int y) R := .div h q
theorem bin_mod {x y : Int} (h : y ≠ 0) (q : R (.int (x.fmod y))) : binR .Mod (.int x) (.int y) R := .mod h q
theorem bin_dive {x y : Int} (h : 0 < y ∧ y.natAbs < 2 ^ 64) (q : R (.int (x / y))) : binR .FloorDiv (.int x) (.int y) R := .div ⟨by lia, h.2⟩ (by rw [Int.fdiv_eq_ediv_of_nonneg x (by lia)]; exact q)
theorem bin_mode {x y : Int} (h : 0 < y) (q : R (.int (x % y))) : binR .Mod (.int x) (.int y) R := .mod (by lia) (by rw [Int.fmod_eq_emod_of_nonneg x (by lia)]; exact q)
theorem bin_pow {x y : Int} (h : 0 ≤ y ∧ y ≤ 1000000 ∧ x.natAbs < 2 ^ 64) (q : R (.int (x ^ y.toNat))) : binR .Pow (.int x) (.int y) R := .pow h q
theorem bin_cat {x y : Str} (h : x.length + y.length ≤ 1000000) (q : R (.str (x ++ y))) : binR .Add (.str x) (.str y) R := .cat h q
theorem bin_rep {x : Str} {n : Int} (h : 0 ≤ n ∧ n ≤ 1000 ∧ x.length ≤ 1000) (q : R (.str (Txt.mul x n))) : binR .Mult (.str x) (.int n) R := .rep h q
theorem bin_one {l : List V} {n : Int} (h : n = 1 ∧ l.length = 1) (q : R (.lst l)) : binR .Mult (.lst l) (.int n) R := .one h q
theorem bin_lst {x y : List V} (h : x.length + y.length ≤ 1000000) (q : R (.lst (x ++ y))) : binR .Add (.lst x) (.lst y) R := .lst h q
-- comparisons
theorem cmp_eq {x y : Int} (q : R (.bool (x == y))) : cmpR .Eq (.int x) (.int y) R := .eq q
theorem cmp_ne {x y : Int} (q : R (.bool (x != y))) : cmpR .NotEq (.int x) (.int y) R := .ne q
theorem cmp_lt {x y : Int} (q : R (.bool (decide (x < y)))) : cmpR .Lt (.int x) (.int y) R := .lt q
theorem cmp_gt {x y : Int} (q : R (.bool (decide (y < x)))) : cmpR .Gt (.int x) (.int y) R := .gt q
theorem cmp_le {x y : Int} (q : R (.bool (decide (x ≤ y)))) : cmpR .LtE (.int x) (.int y) R := .le q
theorem cmp_ge {x y : Int} (q : R (.bool (decide (y ≤ x)))) : cmpR .GtE (.int x) (.int y) R := .ge q
theorem cmp_seq {x y : Str} (q : R (.bool (x == y))) : cmpR .Eq (.str x) (.str y) R := .seq q
theorem cmp_sne {x y : Str} (q : R (.bool (x != y))) : cmpR .NotEq (.str x) (.str y) R := .sne q
theorem cmp_in {x y : Str} (q : R (.bool !(Builtin.Str.occurrences x y 0 x.length 1).isEmpty)) : cmpR .In (.str y) (.str x) R := .inT q
theorem is_int {i : Int} (q : R (.bool false)) : cmpR .Is (.int i) .none R := .is q
theorem isn_int {i : Int} (q : R (.bool true)) : cmpR .IsNot (.int i) .none R := .isnot q
theorem is_str {s : Str} (q : R (.bool false)) : cmpR .Is (.str s) .none R := .is q
theorem isn_str {s : Str} (q : R (.bool true)) : cmpR .IsNot (.str s) .none R := .isnot q
theorem is_tup {l : List V} (q : R (.bool false)) : cmpR .Is (.tup l) .none R := .is q
theorem isn_tup {l : List V} (q : R (.bool true)) : cmpR .IsNot (.tup l) .none R := .isnot q
theorem is_lst {l : List V} (q : R (.bool false)) : cmpR .Is (.lst l) .none R := .is q
theorem isn_lst {l : List V} (q : R (.bool true)) : cmpR .IsNot (.lst l) .none R := .isnot q
theorem is_bool {b : Bool} (q : R (.bool false)) : cmpR .Is (.bool b) .none R := .is q
theorem isn_bool {b : Bool} (q : R (.bool true)) : cmpR .IsNot (.bool b) .none R := .isnot q
theorem is_nn (q : R (.bool true)) : cmpR .Is .none .none R := .is q
theorem isn_nn (q : R (.bool false)) : cmpR .IsNot .none .none R := .isnot q
-- items
theorem get_t0 {a : V} {l : List V} (h : l.length ≤ 999999) (q : R a) : getR (.tup (a :: l)) (.int 0) R := .tup (Nat.succ_le_succ h) rfl q
theorem get_t1 {a b : V} {l : List V} (h : l.length ≤ 999998) (q : R b) : getR (.tup (a :: b :: l)) (.int 1) R := .tup (Nat.succ_le_succ (Nat.succ_le_succ h)) rfl q
theorem get_t2 {a b d : V} {l : List V} (h : l.length ≤ 999997) (q : R d) : getR (.tup (a :: b :: d :: l)) (.int 2) R := .tup (Nat.succ_le_succ (Nat.succ_le_succ (Nat.succ_le_succ h))) rfl q
theorem get_l {l : List V} {i : Int} {d : V} (hz : l.length ≤ 1000000) (h0 : 0 ≤ i) (h : l[i.toNat]? = some d) (q : R d) : getR (.lst l) (.int i) R := .lst hz (by unfold itemAt; rw [if_pos h0, h]) q
theorem get_ln {l : List V} {i : Int} {d : V} (hz : l.length ≤ 1000000) (h0 : i < 0) (h1 : 0 ≤ i + l.length) (h : l[(i + l.length).toNat]? = some d) (q : R d) : getR (.lst l) (.int i) R := .lst hz (by unfold itemAt; rw [if_neg (by lia), if_pos h1, h]) q
theorem get_s {x : Str} {i : Int} {n : Nat} (hz : x.length ≤ 1000000) (h0 : 0 ≤ i) (h : x.cps[i.toNat]? = some n) (q : R (.str ⟨#[n]⟩)) : getR (.str x) (.int i) R := by
  have hl : i.toNat < x.length := (Array.getElem?_eq_some_iff.mp h).1
  exact .str hz (by rw [seqIndex_pos h0 (by lia), Option.bind_some, h]) q
-- slices
theorem sl_str {x : Str} {lo hi : Option Int} (h : (strSl x lo hi).length ≤ 1000000) (q : R (.str (strSl x lo hi))) : sliceR (.str x) lo hi R := ⟨h, q⟩
theorem sl_lst {l : List V} {lo hi : Option Int} (h : l.length ≤ 1000000) (q : R (.lst (lstSl l lo hi))) : sliceR (.lst l) lo hi R := ⟨h, q⟩
theorem ep_none {Q' : Option Int → S → Prop} (q : Q' none σ) : EP c X none σ Q' := q
theorem ep_some {e : Expr} {Q' : Option Int → S → Prop} (h : EV c X e σ fun d σ₁ => ∃ i, d = .int i ∧ Q' (some i) σ₁) : EP c X (some e) σ Q' := h
-- built-in functions
section
variable {p : Pos} {e : Expr} {es : List Expr}
theorem ev_abs (O : c.Ok) (ns : noStars (e :: es) = true) (hk : c.env.kindOf (.ofString "abs") = some .globalImplicit) (hg : nsIn c.K mainGlobals (.ofString "abs") = some none) (h : EL c X pos (e :: es) σ fun ds σ₁ => bltR .abs ds fun v => Q v σ₁) : EV c X (.Call (.Name (.ofString "abs") p) (e :: es) [] pos) σ Q := ev_blt (b := .abs) O ns hk hg h
theorem ev_len (O : c.Ok) (ns : noStars (e :: es) = true) (hk : c.env.kindOf (.ofString "len") = some .globalImplicit) (hg : nsIn c.K mainGlobals (.ofString "len") = some none) (h : EL c X pos (e :: es) σ fun ds σ₁ => bltR .len ds fun v => Q v σ₁) : EV c X (.Call (.Name (.ofString "len") p) (e :: es) [] pos) σ Q := ev_blt (b := .len) O ns hk hg h
theorem ev_max (O : c.Ok) (ns : noStars (e :: es) = true) (hk : c.env.kindOf (.ofString "max") = some .globalImplicit) (hg : nsIn c.K mainGlobals (.ofString "max") = some none) (h : EL c X pos (e :: es) σ fun ds σ₁ => bltR .max ds fun v => Q v σ₁) : EV c X (.Call (.Name (.ofString "max") p) (e :: es) [] pos) σ Q := ev_blt (b := .max) O ns hk hg h
theorem ev_strf (O : c.Ok) (ns : noStars (e :: es) = true) (hk : c.env.kindOf (.ofString "str") = some .globalImplicit) (hg : nsIn c.K mainGlobals (.ofString "str") = some none) (h : EL c X pos (e :: es) σ fun ds σ₁ => bltR .str ds fun v => Q v σ₁) : EV c X (.Call (.Name (.ofString "str") p) (e :: es) [] pos) σ Q := ev_blt (b := .str) O ns hk hg h
theorem ev_intf (O : c.Ok) (ns : noStars (e :: es) = true) (hk : c.env.kindOf (.ofString "int") = some .globalImplicit) (hg : nsIn c.K mainGlobals (.ofString "int") = some none) (h : EL c X pos (e :: es) σ fun ds σ₁ => bltR .int ds fun v => Q v σ₁) : EV c X (.Call (.Name (.ofString "int") p) (e :: es) [] pos) σ Q := ev_blt (b := .int) O ns hk hg h
theorem ev_listf (O : c.Ok) (ns : noStars (e :: es) = true) (hk : c.env.kindOf (.ofString "list") = some .globalImplicit) (hg : nsIn c.K mainGlobals (.ofString "list") = some none) (h : EL c X pos (e :: es) σ fun ds σ₁ => bltR .list ds fun v => Q v σ₁) : EV c X (.Call (.Name (.ofString "list") p) (e :: es) [] pos) σ Q := ev_blt (b := .list) O ns hk hg h
theorem ev_sorted (O : c.Ok) (ns : noStars (e :: es) = true) (hk : c.env.kindOf (.ofString "sorted") = some .globalImplicit) (hg : nsIn c.K mainGlobals (.ofString "sorted") = some none) (h : EL c X pos (e :: es) σ fun ds σ₁ => bltR .sorted ds fun v => Q v σ₁) : EV c X (.Call (.Name (.ofString "sorted") p) (e :: es) [] pos) σ Q := ev_blt (b := .sorted) O ns hk hg h
end
theorem b_abs {i : Int} (q : R (.int (i.natAbs : Int))) : bltR .abs [.int i] R := .abs (by rw [show (if i < 0 then -i else i) = (i.natAbs : Int) by lia]; exact q)
theorem b_lens {x : Str} (h : x.length ≤ 1000000) (q : R (.int x.length)) : bltR .len [.str x] R := .lens h q
theorem b_lenl {l : List V} (h : l.length ≤ 1000000) (q : R (.int l.length)) : bltR .len [.lst l] R := .lenl h q
theorem b_max {x y : Int} (q : R (.int (if y > x then y else x))) : bltR .max [.int x, .int y] R := .max q
theorem b_str {i : Int} (h : i.natAbs < 2 ^ 64) (q : R (.str (intText i))) : bltR .str [.int i] R := .str h q
theorem b_int {i : Int} (q : R (.int i)) : bltR .int [.int i] R := .int q
theorem b_list {l : List V} (h : l.length ≤ 1000000) (q : R (.lst l)) : bltR .list [.lst l] R := .list h q
theorem b_sorted {ns : List Int} (h : ns.length < 64) (q : ∀ ms : List Int, ms.Perm ns → ms.Pairwise (· ≤ ·) → R (.lst (ms.map .int))) : bltR .sorted [.lst (ns.map .int)] R := .sorted h q
-- methods of texts
section
variable {o : Expr} {apos : Pos} {e : Expr} {es : List Expr}
theorem ev_rjust (O : c.Ok) (ho : notBare o = true) (ns : noStars (e :: es) = true) (few : es.length < 20) (hline : (apos.endLine == pos.line) = true) (h : EV c X o σ fun a σ₁ => ∃ y, a = .str y ∧ EL c X pos (e :: es) σ₁ fun ds σ₂ => mthR .rjust y ds fun v => Q v σ₂) : EV c X (.Call (.Attribute o (.ofString "rjust") apos) (e :: es) [] pos) σ Q := ev_mth (b := .rjust) O ho ns few hline h
theorem ev_find (O : c.Ok) (ho : notBare o = true) (ns : noStars (e :: es) = true) (few : es.length < 20) (hline : (apos.endLine == pos.line) = true) (h : EV c X o σ fun a σ₁ => ∃ y, a = .str y ∧ EL c X pos (e :: es) σ₁ fun ds σ₂ => mthR .find y ds fun v => Q v σ₂) : EV c X (.Call (.Attribute o (.ofString "find") apos) (e :: es) [] pos) σ Q := ev_mth (b := .find) O ho ns few hline h
theorem ev_rstrip (O : c.Ok) (ho : notBare o = true) (ns : noStars (e :: es) = true) (few : es.length < 20) (hline : (apos.endLine == pos.line) = true) (h : EV c X o σ fun a σ₁ => ∃ y, a = .str y ∧ EL c X pos (e :: es) σ₁ fun ds σ₂ => mthR .rstrip y ds fun v => Q v σ₂) : EV c X (.Call (.Attribute o (.ofString "rstrip") apos) (e :: es) [] pos) σ Q := ev_mth (b := .rstrip) O ho ns few hline h
theorem ev_join (O : c.Ok) (ho : notBare o = true) (ns : noStars (e :: es) = true) (few : es.length < 20) (hline : (apos.endLine == pos.line) = true) (h : EV c X o σ fun a σ₁ => ∃ y, a = .str y ∧ EL c X pos (e :: es) σ₁ fun ds σ₂ => mthR .join y ds fun v => Q v σ₂) : EV c X (.Call (.Attribute o (.ofString "join") apos) (e :: es) [] pos) σ Q := ev_mth (b := .join) O ho ns few hline h
end
theorem m_rjust {x f : Str} {i : Int} (h : PadOk i = true ∧ f.length = 1) (q : R (.str (Txt.rjustF x i (f.cps.getD 0 0)))) : mthR .rjust x [.int i, .str f] R := .rjust h q
theorem m_find {x y : Str} (q : R (.int (Txt.find x y))) : mthR .find x [.str y] R := .find q
theorem m_rstrip {x y : Str} (h : x.length ≤ 1000000) (q : R (.str (Txt.rstripChars x y))) : mthR .rstrip x [.str y] R := .rstrip h q
theorem m_join {x y : Str} (h : y.length ≤ 1000000) (h2 : x.length ≤ 1000000) (q : R (.str y)) : mthR .join x [.lst [.str y]] R := .join h h2 q
theorem at_kind {l : List V} (q : R (.str (.ofString "double"))) : attrR (.vec l) (.ofString "kind") R := .kind q
theorem at_items {l : List V} (q : R (.lst l)) : attrR (.vec l) (.ofString "items") R := .items q
-- methods of lists
theorem l_append {ds : List V} {d : V} {L : List V → Prop} (h : ds.length ≤ 1000000) (q : L (ds ++ [d])) : lthR .append ds [d] L := .append h q
theorem l_insert {ds : List V} {d : V} {i : Int} {L : List V → Prop} (h : 0 ≤ i ∧ i ≤ 1000000 ∧ ds.length ≤ 1000000) (q : L (ds.take i.toNat ++ d :: ds.drop i.toNat)) : lthR .insert ds [.int i, d] L := .insert h q
/-- a test whose value is told -/
theorem eb_b {b : Bool} {q : B b σ} : ∃ t, V.bool b = .bool t ∧ B t σ := ⟨b, rfl, q⟩
end
theorem bui (P : Params) : Bui (K39 P) := by
  unfold Bui
  repeat (first | exact List.forall_mem_nil _ | (refine List.forall_mem_cons.mpr ⟨by kernel_rfl, ?_⟩))
/-- a def keeps its promise: the frame is a name, what is known of it stands beside -/
theorem len_s {n : Nat} {p : List Value → Prop} (k : ∀ a, ∀ l : List Value, l.length = n → p (a :: l)) : ∀ vals : List Value, vals.length = n + 1 → p vals
  | a :: l, h => k a l (Nat.succ.inj h)
theorem len_0 {p : List Value → Prop} (k : p []) : ∀ vals : List Value, vals.length = 0 → p vals
  | [], _ => k
theorem len_1 {p : List Value → Prop} (k : ∀ a, p [a]) : ∀ vals : List Value, vals.length = 1 → p vals := len_s fun a => len_0 (k a)
theorem len_2 {p : List Value → Prop} (k : ∀ a b, p [a, b]) : ∀ vals : List Value, vals.length = 2 → p vals := len_s fun a => len_1 (k a)
theorem len_3 {p : List Value → Prop} (k : ∀ a b c, p [a, b, c]) : ∀ vals : List Value, vals.length = 3 → p vals := len_s fun a => len_2 (k a)
theorem len_4 {p : List Value → Prop} (k : ∀ a b c d, p [a, b, c, d]) : ∀ vals : List Value, vals.length = 4 → p vals := len_s fun a => len_3 (k a)
theorem len_5 {p : List Value → Prop} (k : ∀ a b c d e, p [a, b, c, d, e]) : ∀ vals : List Value, vals.length = 5 → p vals := len_s fun a => len_4 (k a)
theorem fn_go {prog : Program} {w : World} {base : Heap} {mg mb : Str → Option Value} (G : Grd prog w (K39 w.params) base mg mb) {kp : Bool} {lvl : Nat} {sp : Spec} {f : Addr} {name qual : Str} {params : Arguments} {body : List Stmt} {scope : Scope} {dV kV doc pm cdv ct oc : Value} {an od : Option Addr} {osl : Array (Option Value)}
    (ho : (K39 w.params).lookup f = some ⟨oc, od, .func (fnOf name qual params body scope dV kV doc pm an cdv ct), osl⟩) (hcd : codeIn (K39 w.params) cdv qual = true)
    (ps loc cel glo : List Str) (hb : ∀ vals : List Value, vals.length = ps.length → ∀ s : Shared, (K39 w.params).In s.heap → BindsTo s (fnOf name qual params body scope dV kV doc pm an cdv ct) ⟨vals, []⟩ (ps.zip vals))
    (hps : paramsOk scope ps = true) (nd : ps.Nodup) (hn : nfCheck scope.names loc cel glo = true) (tbl : Tbl) (ht : TblOk prog w (K39 w.params) base lvl tbl)
    (walk : ∀ ds R, sp ds R → ds.length = ps.length ∧ ∀ c : Ctx, c.Ok → NF' c loc cel glo → Bui c.K → (kp = false → c.hi = none) → c.lvl = lvl → (∀ x, c.fn x = tbl.lookup x) → (∃ D, c = mkC ⟨K39 w.params, lvl, qual, scope, f, cdv, tbl⟩ D) →
      SS c (fun msg => R (.exc msg)) body ⟨ps.zip ds, none⟩ (fnQ R))
    (hco : scope.isCoroutine = false := by rfl) (hgen : scope.isGenerator = false := by rfl) (hk : scope.kind = .function := by rfl) : FnOk kp prog w base (lvl + 1) f sp :=
  fn_ok G ho hcd ps hb hps nd tbl ht (fun ds R hsp => let ⟨h1, h2⟩ := walk ds R hsp; ⟨h1, fun D hhi O W => h2 _ O (NF'.of W hn) (bui _) hhi rfl (fun _ => rfl) ⟨D, rfl⟩⟩) hco hgen hk
theorem tbl_cons {prog : Program} {w : World} {K : Frag} {base : Heap} {n m : Nat} {x : Str} {kp : Bool} {sp : Spec} {f : Addr} {o : Obj} {fd : FuncData} {t : Tbl} (h : FnOk kp prog w base m f sp) (le : m ≤ n) (h1 : nsIn K mainGlobals x = some (some (.ref f))) (ho : K.lookup f = some o) (hd : o.data = .func fd) (r : TblOk prog w K base n t) :
    TblOk prog w K base n ((x, kp, sp) :: t) := ⟨⟨f, o, fd, h1, ho, hd, h.up le⟩, r⟩
theorem ite_seqT {a b : String} {A B : Prop} (h : (a == b) = true) (q : A) : if (Str.ofString a == Str.ofString b) = true then A else B := by rw [ofStr_beq, if_pos h]; exact q
theorem ite_seqF {a b : String} {A B : Prop} (h : (a == b) = false) (q : B) : if (Str.ofString a == Str.ofString b) = true then A else B := by rw [ofStr_beq, h, if_neg (by decide)]; exact q
theorem len_and {α : Type} {l : List α} {A : Prop} (h : l.length ≤ 1000000) (q : A) : l.length ≤ 1000000 ∧ A := ⟨h, q⟩
/-- less is told -/
noncomputable def SubL (l vars : List (Str × V)) : Prop := ∀ p ∈ l, vars.lookup p.1 = some p.2
theorem SubL.nil {vars : List (Str × V)} : SubL [] vars := List.forall_mem_nil _
theorem SubL.cons {vars : List (Str × V)} {x : Str} {d : V} {r : List (Str × V)} (h : vars.lookup x = some d) (k : SubL r vars) : SubL ((x, d) :: r) vars := List.forall_mem_cons.mpr ⟨h, k⟩
theorem lk0 {x : Str} {d : V} {r : List (Str × V)} : List.lookup x ((x, d) :: r) = some d := List.lookup_cons_self
noncomputable def Sub (σ' σ : S) : Prop := σ'.own = σ.own ∧ SubL σ'.vars σ.vars
theorem Sub.lookup {σ' σ : S} (h : Sub σ' σ) {x : Str} {d : V} (e : σ'.vars.lookup x = some d) : σ.vars.lookup x = some d := h.2 (x, d) (mem_of_lookup e)
theorem Sub.refl' (σ : S) (nd : SubL σ.vars σ.vars) : Sub σ σ := ⟨rfl, nd⟩
noncomputable def Sub2 (σ' σ : S) : Prop := σ'.own = σ.own ∧ ∀ x d, σ'.vars.lookup x = some d → σ.vars.lookup x = some d
theorem Sub.two {σ' σ : S} (h : Sub σ' σ) : Sub2 σ' σ := ⟨h.1, fun x d e => h.lookup e⟩
theorem Sub2.refl (σ : S) : Sub2 σ σ := ⟨rfl, fun _ _ e => e⟩
theorem Sub2.trans {a b d : S} (h : Sub2 a b) (k : Sub2 b d) : Sub2 a d := ⟨h.1.trans k.1, fun x v e => k.2 x v (h.2 x v e)⟩
theorem Sub2.put {σ' σ : S} (h : Sub2 σ' σ) (x : Str) (d : V) : Sub2 (σ'.put x d) (σ.put x d) := by
  refine ⟨?_, fun y v e => ?_⟩
  · simp only [S.put, h.1]
  · simp only [S.put, setV_lookup] at e ⊢
    split at e
    · rename_i q; rw [if_pos q]; exact e
    · rename_i q; rw [if_neg q]; exact h.2 y v e
theorem Inv.sub {c : Ctx} {h : Heap} {m : Str → Option Value} {P : Fz} {oa : Addr} {σ σ' : S} (I : Inv c h m P oa σ) (s : Sub2 σ' σ) : Inv c h m P oa σ' :=
  ⟨I.1, I.2, I.3, I.4, I.5, I.6, I.7, I.8, I.9, fun x d e => I.vars x d (s.2 x d e), fun x ds e => I.own x ds (s.1 ▸ e)⟩
section
variable {c : Ctx} {X : Str → Prop} {σ : S} {pos : Pos} {k : Nat} {rest : List Stmt}
theorem ss_pn {Q : SPost} {x : Str} {d : V} {vars : List (Str × V)} (h : SS c X rest ⟨(x, d) :: vars, none⟩ Q) : SS c X rest (S.put ⟨vars, none⟩ x d) Q := h
theorem put_some {x y : Str} {d : V} {ds : List V} {vars : List (Str × V)} (n : (y == x) = false) : S.put ⟨vars, some (y, ds)⟩ x d = ⟨(x, d) :: vars, some (y, ds)⟩ := by
  unfold S.put
  simp only [n, Bool.false_eq_true, if_false]
  rfl
theorem ss_ps {Q : SPost} {x y : Str} {d : V} {ds : List V} {vars : List (Str × V)} (n : (y == x) = false) (h : SS c X rest ⟨(x, d) :: vars, some (y, ds)⟩ Q) : SS c X rest (S.put ⟨vars, some (y, ds)⟩ x d) Q := by rw [put_some n]; exact h
theorem ss_mn {Q : SPost} {x : Str} {ds : List V} {vars : List (Str × V)} (n : delV x vars = vars) (h : SS c X rest ⟨vars, some (x, ds)⟩ Q) : SS c X rest (S.mk' ⟨vars, none⟩ x ds) Q := by
  have e : S.mk' ⟨vars, none⟩ x ds = ⟨delV x vars, some (x, ds)⟩ := rfl
  rw [e, n]; exact h
theorem ss_ms {Q : SPost} {x y : Str} {ds es : List V} {vars : List (Str × V)} (n : delV x ((y, .lst es) :: vars) = (y, .lst es) :: vars) (h : SS c X rest ⟨(y, .lst es) :: vars, some (x, ds)⟩ Q) : SS c X rest (S.mk' ⟨vars, some (y, es)⟩ x ds) Q := by
  have e : S.mk' ⟨vars, some (y, es)⟩ x ds = ⟨delV x ((y, .lst es) :: vars), some (x, ds)⟩ := rfl
  rw [e, n]; exact h
theorem ss_weak {Q : SPost} {sts : List Stmt} {σ' : S} (s : Sub2 σ' σ) (h : SS c X sts σ' Q) : SS c X sts σ Q := fun s' m P oa Φ E I p x => h s' m P oa Φ E (I.sub s) p x
theorem ss_append {Q : SPost} {x : Str} {xp apos p₀ : Pos} {e : Expr} {ds : List V} {vars : List (Str × V)} (O : c.Ok) (ok : okName x = true) (hs : isStar e = false) (hline : (apos.endLine == p₀.line) = true)
    (h : EL c X p₀ [e] ⟨vars, some (x, ds)⟩ fun args σ₁ => ∃ ds, σ₁.own = some (x, ds) ∧ lthR .append ds args fun ds' => SS c X rest ⟨σ₁.vars, some (x, ds')⟩ Q) : SS c X (.Expr (.Call (.Attribute (.Name x xp) (.ofString "append") apos) [e] [] p₀) pos :: rest) ⟨vars, some (x, ds)⟩ Q :=
  ss_lth (b := .append) O rfl ok rfl (by simp only [noStars, hs]; rfl) (by decide) hline h
theorem ss_insert {Q : SPost} {x : Str} {xp apos p₀ : Pos} {e e' : Expr} {ds : List V} {vars : List (Str × V)} (O : c.Ok) (ok : okName x = true) (hs : noStars [e, e'] = true) (hline : (apos.endLine == p₀.line) = true)
    (h : EL c X p₀ [e, e'] ⟨vars, some (x, ds)⟩ fun args σ₁ => ∃ ds, σ₁.own = some (x, ds) ∧ lthR .insert ds args fun ds' => SS c X rest ⟨σ₁.vars, some (x, ds')⟩ Q) : SS c X (.Expr (.Call (.Attribute (.Name x xp) (.ofString "insert") apos) [e, e'] [] p₀) pos :: rest) ⟨vars, some (x, ds)⟩ Q :=
  ss_lth (b := .insert) O rfl ok rfl hs (by simp) hline h
theorem ss_reverse {Q : SPost} {x : Str} {xp apos p₀ : Pos} {ds : List V} {vars : List (Str × V)} (O : c.Ok) (ok : okName x = true) (hline : (apos.endLine == p₀.line) = true) (hz : ds.length ≤ 1000000)
    (h : SS c X rest ⟨vars, some (x, ds.reverse)⟩ Q) : SS c X (.Expr (.Call (.Attribute (.Name x xp) (.ofString "reverse") apos) [] [] p₀) pos :: rest) ⟨vars, some (x, ds)⟩ Q :=
  ss_cons (sx_reverse O ok rfl hline hz h)
/-- how a turn of a while ends -/
noncomputable def wlQ (J : Nat → S → Prop) (n : Nat) (Q : SPost) : SPost := fun f σ₂ => match f with
  | .next => ∃ σ' m, Sub σ' σ₂ ∧ m < n ∧ J m σ' | .cont => ∃ σ' m, Sub σ' σ₂ ∧ m < n ∧ J m σ' | .brk => Q .next σ₂ | .ret v => Q (.ret v) σ₂
theorem wlQ_next {J : Nat → S → Prop} {n : Nat} {Q : SPost} (σ' : S) (m : Nat) (s : Sub σ' σ) (lt : m < n) (h : J m σ') : wlQ J n Q .next σ := ⟨σ', m, s, lt, h⟩
theorem ss_while {Q : SPost} {test : Expr} {body : List Stmt} (J : Nat → S → Prop) (n : Nat) (σ₀ : S) (s₀ : Sub σ₀ σ) (h : J n σ₀)
    (turn : ∀ n σ, J n σ → EB c NoX test σ fun b σ₁ => if b = true then SS c NoX body σ₁ (wlQ J n (thenQ c X rest Q)) else SS c X rest σ₁ Q) : SS c X (.While test body [] pos :: rest) σ Q := by
  refine ss_one (sx_while (fun n σ => ∃ σ', Sub2 σ' σ ∧ J n σ') (fun n σ ⟨σ', s, j⟩ => ?_) n ⟨σ₀, s₀.two, h⟩)
  refine fun s' m P oa Φ E I p x => turn n σ' j s' m P oa Φ E (I.sub s) (fun b σ₁ h' tk' m' P' I' g q => p b σ₁ h' tk' m' P' I' g ?_) x
  cases b with
  | false => exact q
  | true =>
    refine fun s' m P oa Φ E I p x => q s' m P oa Φ E I (fun f f' σ' h' tk' m' P' oa' I' g r q => p f f' σ' h' tk' m' P' oa' I' g r ?_) x
    cases r with
    | next => obtain ⟨σ', m, s, lt, j⟩ := q; exact ⟨m, lt, σ', s.two, j⟩
    | cont => obtain ⟨σ', m, s, lt, j⟩ := q; exact ⟨m, lt, σ', s.two, j⟩
    | brk => exact q
    | ret r => exact q
/-- how a turn of a for ends -/
noncomputable def flQ (J : Nat → S → Prop) (i : Nat) (Q : SPost) : SPost := fun f σ₂ => match f with
  | .next => ∃ σ', Sub σ' σ₂ ∧ J (i + 1) σ' | .cont => ∃ σ', Sub σ' σ₂ ∧ J (i + 1) σ' | .brk => Q .next σ₂ | .ret v => Q (.ret v) σ₂
theorem flQ_next {J : Nat → S → Prop} {i : Nat} {Q : SPost} (σ' : S) (s : Sub σ' σ) (h : J (i + 1) σ') : flQ J i Q .next σ := ⟨σ', s, h⟩
theorem flQ_cont {J : Nat → S → Prop} {i : Nat} {Q : SPost} (σ' : S) (s : Sub σ' σ) (h : J (i + 1) σ') : flQ J i Q .cont σ := ⟨σ', s, h⟩
theorem flQ_ret {J : Nat → S → Prop} {i : Nat} {Q : SPost} {v : V} (h : Q (.ret v) σ) : flQ J i Q (.ret v) σ := h
theorem ss_for {Q : SPost} {x : Str} {xp : Pos} {iter : Expr} {body : List Stmt} {loc cel glo : List Str} (O : c.Ok) (N : NF' c loc cel glo) (hx : Bindable c x) (hs : isSet iter = false)
    (h : IT c X iter σ fun ds σ₁ => ∃ (J : Nat → S → Prop) (σ₀ : S), Sub σ₀ σ₁ ∧ J 0 σ₀ ∧
      (∀ ch : Ctx, ch.Ok → NF' ch loc cel glo → ch.K = c.K → ch.fn = c.fn → ch.lvl = c.lvl → ∀ i d σ₂, ds[i]? = some d → J i σ₂ → SS ch NoX body (σ₂.put x d) (flQ J i (thenQ c X rest Q))) ∧
      ∀ σ₂, J ds.length σ₂ → SS c X rest σ₂ Q) : SS c X (.For (.Name x xp) iter body [] pos :: rest) σ Q := by
  refine ss_one (sx_for O hx hs fun s m P oa Φ E I p x' => h s m P oa Φ E I (fun a ds σ' h' tk' m' P' I' g t q => p a ds σ' h' tk' m' P' I' g t ?_) x')
  obtain ⟨J, σ₀, s₀, j0, turn, fin⟩ := q
  refine ⟨fun i σ => ∃ σ', Sub2 σ' σ ∧ J i σ', ⟨σ₀, s₀.two, j0⟩, fun hh i d σ₂ hd ⟨σ', s, j⟩ => ss_weak (s.put x d) ?_, fun σ₂ ⟨σ', s, j⟩ => ss_weak s (fin σ' j)⟩
  refine fun s' m P oa Φ E I p x => turn (c.hold hh) (O.hold hh) (N.hold hh) rfl rfl rfl i d σ' hd j s' m P oa Φ E I (fun f f' σ' h' tk' m' P' oa' I' g r q => p f f' σ' h' tk' m' P' oa' I' g r ?_) x
  cases r with
  | next => obtain ⟨σ', s, j⟩ := q; exact ⟨σ', s.two, j⟩
  | cont => obtain ⟨σ', s, j⟩ := q; exact ⟨σ', s.two, j⟩
  | brk => exact q
  | ret r => exact q
end
section
variable {c : Ctx} {X : Str → Prop} {σ : S} {Q : VPost} {pos : Pos} {k : Nat}
theorem ev_ol (O : c.Ok) {x : Str} {p p' : Pos} {ds : List V} {vars : List (Str × V)} (ok : okName x = true) (hk : c.env.kindOf (PySem.Str.ofString "len") = some .globalImplicit) (hg : nsIn c.K mainGlobals (PySem.Str.ofString "len") = some none) (hz : ds.length ≤ 1000000)
    (q : Q (.int ds.length) ⟨vars, some (x, ds)⟩) : EV c X (.Call (.Name (PySem.Str.ofString "len") p) [.Name x p'] [] pos) ⟨vars, some (x, ds)⟩ Q := ev_own_len O ok hk hg rfl hz q
theorem ev_oi (O : c.Ok) {x : Str} {p : Pos} {ds : List V} {vars : List (Str × V)} {slice : Expr} (ok : okName x = true) (hsl : isSl slice = false)
    (h : EV c X slice ⟨vars, some (x, ds)⟩ fun i σ₁ => ∃ ds', σ₁.own = some (x, ds') ∧ getR (.lst ds') i fun v => Q v σ₁) : EV c X (.Subscript (.Name x p) slice pos) ⟨vars, some (x, ds)⟩ Q := ev_own_item O ok hsl rfl h
theorem ts_nil {B : Bool → S → Prop} (h : B true σ) : TS c X [] σ B := h
/-- [elt for x in iter] -/
noncomputable def MapOk (c : Ctx) (X : Str → Prop) (scope : Scope) (cl : List (Str × Addr)) (x : Str) (elt iter : Expr) (σ : S) (Fin : List V → S → Prop) : Prop :=
  IT c X iter σ fun ds σ₁ => ds.length ≤ 1000000 ∧ ∃ f : V → V, (∀ ci : Ctx, ci.Ok → (∃ C h P, ci = c.inn scope cl C h P) → ci.K = c.K → ci.fn = c.fn → ci.lvl = c.lvl → ∀ d ∈ ds, EV ci NoX elt (inS cl x d σ₁) fun v _ => v = f d) ∧ Fin (ds.map f) σ₁
theorem comp_map {scope : Scope} {cl : List (Str × Addr)} {x : Str} {elt iter : Expr} {Fin : List V → S → Prop} (h : MapOk c X scope cl x elt iter σ Fin) : CompOk c X scope cl x [] elt iter σ Fin := by
  refine fun s m P oa Φ E I p x' => h s m P oa Φ E I (fun a ds σ' h' tk' m' P' I' g t q => p a ds σ' h' tk' m' P' I' g t ?_) x'
  obtain ⟨hz, f, turn, fin⟩ := q
  refine ⟨fun i acc => acc = (ds.take i).map f, rfl, hz, fun C hh PP i d acc Oi hd j => ts_nil ?_, fun acc j _ => by have j : acc = _ := j; rw [j, List.take_length]; exact fin⟩
  rw [if_pos rfl]
  refine fun s m P oa Φ E I p x' => turn _ Oi ⟨C, hh, PP, rfl⟩ rfl rfl rfl d (List.mem_of_getElem? hd) s m P oa Φ E I (fun v d' σ' h' tk' m' P' I' g r q => p v d' σ' h' tk' m' P' I' g r ?_) x'
  have j : acc = _ := j
  show acc ++ [d'] = (ds.take (i + 1)).map f
  rw [List.take_add_one, hd, q, j, Option.toList_some, List.map_append]; rfl
theorem ev_map (O : c.Ok) {scope : Scope} (cl : List (Str × Addr)) {x : Str} {xp : Pos} {elt iter : Expr} (N : CompNames c.env scope cl x) (hs : isSet iter = false) (h : MapOk c X scope cl x elt iter σ fun l σ₁ => Q (.lst l) σ₁) :
    EV c X (.ListComp elt [⟨.Name x xp, iter, [], 0⟩] scope pos) σ Q := ev_comp O N hs (comp_map h)
/-- [elt for x in iter if t] -/
noncomputable def FilOk (c : Ctx) (X : Str → Prop) (scope : Scope) (cl : List (Str × Addr)) (x : Str) (t elt iter : Expr) (σ : S) (Fin : List V → S → Prop) : Prop :=
  IT c X iter σ fun ds σ₁ => ds.length ≤ 1000000 ∧ ∃ (p : V → Bool), (∀ ci : Ctx, ci.Ok → (∃ C h P, ci = c.inn scope cl C h P) → ci.K = c.K → ci.fn = c.fn → ci.lvl = c.lvl → ∀ d ∈ ds, EB ci NoX t (inS cl x d σ₁) fun b σ₂ => b = p d ∧ (b = true → EV ci NoX elt σ₂ fun v _ => v = d)) ∧ Fin (ds.filter p) σ₁
theorem comp_filter {scope : Scope} {cl : List (Str × Addr)} {x : Str} {t elt iter : Expr} {Fin : List V → S → Prop} (h : FilOk c X scope cl x t elt iter σ Fin) : CompOk c X scope cl x [t] elt iter σ Fin := by
  refine fun s m P oa Φ E I p x' => h s m P oa Φ E I (fun a ds σ' h' tk' m' P' I' g t q => p a ds σ' h' tk' m' P' I' g t ?_) x'
  obtain ⟨hz, pr, turn, fin⟩ := q
  refine ⟨fun i acc => acc = (ds.take i).filter pr, rfl, hz, fun C hh PP i d acc Oi hd j => ?_, fun acc j _ => by have j : acc = _ := j; rw [j, List.take_length]; exact fin⟩
  have e : ds.take (i + 1) = ds.take i ++ [d] := by rw [List.take_add_one, hd]; rfl
  show EB _ _ _ _ _
  refine fun s m P oa Φ E I p x' => turn _ Oi ⟨C, hh, PP, rfl⟩ rfl rfl rfl d (List.mem_of_getElem? hd) s m P oa Φ E I (fun b σ' h' tk' m' P' I' g q => p b σ' h' tk' m' P' I' g ?_) x'
  obtain ⟨q1, q2⟩ := q
  have j : acc = _ := j
  show if b = true then EV _ NoX elt σ' fun v _ => acc ++ [v] = (ds.take (i + 1)).filter pr else acc = (ds.take (i + 1)).filter pr
  rw [e, List.filter_append, List.filter_cons, ← q1, j]
  cases b with
  | false =>
    rw [if_neg Bool.false_ne_true, if_neg Bool.false_ne_true]
    exact (List.append_nil _).symm
  | true =>
    rw [if_pos rfl, if_pos rfl]
    exact fun s m P oa Φ E I p x' => q2 rfl s m P oa Φ E I (fun v d' σ' h' tk' m' P' I' g r q => p v d' σ' h' tk' m' P' I' g r (by show _ = _; rw [q]; rfl)) x'
section
variable {rest : List Stmt} {R : SPost} {scope : Scope} {x y : Str} {xp yp p₀ : Pos} {elt iter t : Expr}
theorem ss_map (O : c.Ok) (cl : List (Str × Addr)) (N : CompNames c.env scope cl x) (hs : isSet iter = false) (hsw : swapsWith (.ListComp elt [⟨.Name x xp, iter, [], 0⟩] scope p₀) (some (.Name y yp)) pos.line c.env = pure true) (hy : c.env.kindOf y = some .local)
    (h : MapOk c X scope cl x elt iter σ fun l σ₁ => SS c X rest (σ₁.put y (.lst l)) R) : SS c X (.Assign [.Name y yp] (.ListComp elt [⟨.Name x xp, iter, [], 0⟩] scope p₀) pos :: rest) σ R := ss_one (sx_comp O N hs hsw hy (comp_map h))
theorem ss_map_own (O : c.Ok) (cl : List (Str × Addr)) (N : CompNames c.env scope cl x) (hs : isSet iter = false) (hsw : swapsWith (.ListComp elt [⟨.Name x xp, iter, [], 0⟩] scope p₀) (some (.Name y yp)) pos.line c.env = pure true) (hy : c.env.kindOf y = some .local)
    (h : MapOk c X scope cl x elt iter σ fun l σ₁ => σ₁.own = none ∧ SS c X rest ⟨delV y σ₁.vars, some (y, l)⟩ R) : SS c X (.Assign [.Name y yp] (.ListComp elt [⟨.Name x xp, iter, [], 0⟩] scope p₀) pos :: rest) σ R := ss_one (sx_comp_own O N hs hsw hy (comp_map h))
theorem ss_mapc (O : c.Ok) (cl : List (Str × Addr)) (N : CompNames c.env scope cl x) (hs : isSet iter = false) (hsw : swapsWith (.ListComp elt [⟨.Name x xp, iter, [], 0⟩] scope p₀) (some (.Name y yp)) pos.line c.env = pure false) (hy : Bindable c y)
    (h : MapOk c X scope cl x elt iter σ fun l σ₁ => SS c X rest (σ₁.put y (.lst l)) R) : SS c X (.Assign [.Name y yp] (.ListComp elt [⟨.Name x xp, iter, [], 0⟩] scope p₀) pos :: rest) σ R := ss_one (sx_assign' O hsw hy (ev_map O cl N hs h))
theorem ss_filc (O : c.Ok) (cl : List (Str × Addr)) (N : CompNames c.env scope cl x) (hs : isSet iter = false) (hsw : swapsWith (.ListComp elt [⟨.Name x xp, iter, [t], 0⟩] scope p₀) (some (.Name y yp)) pos.line c.env = pure false) (hy : Bindable c y)
    (h : FilOk c X scope cl x t elt iter σ fun l σ₁ => SS c X rest (σ₁.put y (.lst l)) R) : SS c X (.Assign [.Name y yp] (.ListComp elt [⟨.Name x xp, iter, [t], 0⟩] scope p₀) pos :: rest) σ R := ss_one (sx_assign' O hsw hy (ev_comp O N hs (comp_filter h)))
theorem ss_expr (O : c.Ok) {e : Expr} (hc : isComp e = false) (h : EV c X e σ fun _ σ₁ => SS c X rest σ₁ R) : SS c X (.Expr e pos :: rest) σ R := ss_one (sx_expr O hc h)
theorem ss_raise (O : c.Ok) {np cpos : Pos} {e : Expr} (hs : isStar e = false) (hk : c.env.kindOf (.ofString "Refusal") = some .globalImplicit) (hl : 1 ≤ c.lvl)
    (h : EV c X e σ fun d _ => ∃ msg, d = .str msg ∧ X msg) : SS c X (.Raise (some (.Call (.Name (.ofString "Refusal") np) [e] [] cpos)) none pos :: rest) σ R := ss_one (sx_raise O hs hk hl h)
theorem ss_setitem (O : c.Ok) {i e : Expr} (ok : okName x = true) (hc : isComp e = false)
    (h : EV c X e σ fun d σ₁ => (∃ ds, σ₁.own = some (x, ds)) ∧ EV c X i σ₁ fun iv σ₂ => ∃ k ds, iv = .int k ∧ σ₂.own = some (x, ds) ∧ ds.length ≤ 1000000 ∧ -(ds.length : Int) ≤ k ∧ k < ds.length ∧ SS c X rest ⟨σ₂.vars, some (x, setAt k d ds)⟩ R) :
    SS c X (.Assign [.Subscript (.Name x xp) i p₀] e pos :: rest) σ R := ss_one (sx_setitem O ok hc h)
end
/-- a comprehension's own names -/
theorem NF'.inn {St : Sta} {D : Dyn} {scope : Scope} {cl : List (Str × Addr)} {C : Addr} {h : Heap} {P : Fz} {loc glo : List Str} (hk : nfCheck (relabel scope (St.env 0)).names loc [] glo = true) (same : ∀ L, (relabel scope (St.env L)).names = (relabel scope (St.env 0)).names) : NF' ((mkC St D).inn scope cl C h P) loc [] glo := by
  simp only [nfCheck, Bool.and_eq_true, List.all_eq_true, beq_iff_eq] at hk
  refine ⟨fun x hx => ?_, fun x hx => (nomatch hx), fun x hx => ?_⟩
  · have := hk.1.1 x hx
    show List.lookup x (relabel scope (St.env D.L)).names = _
    rw [same]; exact this
  · have := hk.2 x hx
    show List.lookup x (relabel scope (St.env D.L)).names = _
    rw [same]; exact this
end
section
open PySem.StrLaws Builtin.Str
/-- a text's code points -/
noncomputable def cp (x : Str) : List Nat := x.cps.toList
theorem cp_ext {x y : Str} (h : cp x = cp y) : x = y := Str.ext' (Array.toList_inj.mp h)
theorem cp_app (x y : Str) : cp (x ++ y) = cp x ++ cp y := by show (x ++ y).cps.toList = _; rw [Str.cps_append, Array.toList_append]; rfl
theorem cp_len (x : Str) : x.length = (cp x).length := by simp [cp, Str.length]
theorem len_app (x y : Str) : (x ++ y).length = x.length + y.length := Str.length_append x y
theorem strSl_eq (x : Str) (lo hi : Option Int) : strSl x lo hi = sliceText x lo hi := by
  unfold strSl sliceText; simp
theorem cp_from {x : Str} {i : Int} (h : 0 ≤ i) (h2 : i ≤ x.length) : cp (strSl x (some i) none) = (cp x).drop i.toNat := by
  rw [strSl_eq, sliceText_from ⟨h, by rw [cp_len] at h2; exact h2⟩]
  show ((cp x).drop i.toNat).take (((cp x).length : Int) - i).toNat = _
  rw [List.take_of_length_le]
  rw [List.length_drop]; lia
theorem cp_to {x : Str} {i : Int} (h : 0 ≤ i) (h2 : i ≤ x.length) : cp (strSl x none (some i)) = (cp x).take i.toNat := by
  rw [strSl_eq, sliceText_to ⟨h, by rw [cp_len] at h2; exact h2⟩]
  show ((cp x).drop 0).take (i - 0).toNat = _
  simp
theorem cp_but1 {x : Str} (h : 1 ≤ x.length) : cp (strSl x none (some (-1))) = (cp x).take ((cp x).length - 1) := by
  have e : strSl x none (some (-1)) = strSl x none (some ((x.length : Int) - 1)) := by
    have i : strSliceIndices none (some (-1)) 1 x.length = strSliceIndices none (some ((x.length : Int) - 1)) 1 x.length := by
      have h1 : ¬ ((x.length : Int) - 1 < 0) := by lia
      simp only [strSliceIndices, h1, if_false, show ((-1 : Int) < 0) by decide, if_true]
      rw [show (-1 : Int) + x.length = x.length - 1 by lia]
    unfold strSl; rw [i]
  rw [e, cp_to (by lia) (by lia)]
  have := cp_len x
  congr 1; lia
theorem cp_rjust (x : Str) (i : Int) (c : Nat) : cp (Txt.rjustF x i c) = List.replicate (i.toNat - (cp x).length) c ++ cp x := by
  unfold Txt.rjustF
  have := cp_len x
  split
  · rename_i h
    rw [show i.toNat - (cp x).length = 0 by lia]; rfl
  · unfold padded
    show (Array.replicate (i.toNat - x.length) c ++ x.cps ++ Array.replicate 0 c).toList = _
    simp only [Array.toList_append, Array.toList_replicate, List.replicate_zero, List.append_nil]
    rw [this]; rfl
theorem cp_s0 {x : Str} : cp (⟨#[x.cps.getD 0 0]⟩ : Str) = [(cp x).headD 0] := by
  show [x.cps.getD 0 0] = _
  congr 1
  unfold cp
  rcases x with ⟨⟨l⟩⟩
  cases l <;> rfl
theorem at_iff (x : Str) (c i : Nat) : StrLaws.At x ⟨#[c]⟩ x.length i ↔ (cp x)[i]? = some c := by
  unfold StrLaws.At
  rw [subAt_eq]
  have hl : (⟨#[c]⟩ : Str).length = 1 := rfl
  rw [hl]
  constructor
  · rintro ⟨h1, h2⟩
    rw [beq_iff_eq] at h2
    have h2 : ((cp x).drop i).take 1 = [c] := h2
    have := congrArg (·[0]?) h2
    simp only [List.getElem?_take, List.getElem?_drop] at this
    simpa using this
  · intro h
    have hlt := (List.getElem?_eq_some_iff.mp h).1
    refine ⟨by rw [cp_len]; lia, ?_⟩
    rw [beq_iff_eq]
    show ((cp x).drop i).take 1 = [c]
    rw [List.drop_eq_getElem_cons hlt]
    have := (List.getElem?_eq_some_iff.mp h).2
    simp [this]
/-- where a sign stands first -/
theorem find_at {x : Str} {c : Nat} {a b : List Nat} (h : cp x = a ++ c :: b) (hn : c ∉ a) : Txt.find x ⟨#[c]⟩ = a.length := by
  unfold Txt.find
  rcases occ_head x ⟨#[c]⟩ 1 (Nat.le_refl _) with ⟨e, h0⟩ | ⟨i, r, e, h1, h2⟩
  · exfalso
    refine h0 a.length ((at_iff _ _ _).mpr ?_)
    rw [h]; simp
  · rw [e]
    have h1 := (at_iff _ _ _).mp h1
    have : i = a.length := by
      rcases Nat.lt_trichotomy i a.length with lt | eq | gt
      · exfalso
        rw [h, List.getElem?_append_left lt] at h1
        exact hn (List.mem_of_getElem? h1)
      · exact eq
      · exfalso
        refine h2 a.length gt ((at_iff _ _ _).mpr ?_)
        rw [h]; simp
    rw [this]
theorem find_not {x : Str} {c : Nat} (h : c ∉ cp x) : Txt.find x ⟨#[c]⟩ = -1 := by
  unfold Txt.find
  rcases occ_head x ⟨#[c]⟩ 1 (Nat.le_refl _) with ⟨e, h0⟩ | ⟨i, r, e, h1, h2⟩
  · rw [e]
  · exact absurd (List.mem_of_getElem? ((at_iff _ _ _).mp h1)) h
theorem contains_iff (x : Str) (c : Nat) : Txt.contains x ⟨#[c]⟩ = decide (c ∈ cp x) := by
  unfold Txt.contains
  rcases occ_head x ⟨#[c]⟩ 1 (Nat.le_refl _) with ⟨e, h0⟩ | ⟨i, r, e, h1, h2⟩
  · rw [e]
    have : c ∉ cp x := fun hm => by
      obtain ⟨i, hi⟩ := List.getElem?_of_mem hm
      exact h0 i ((at_iff _ _ _).mpr hi)
    simp [this]
  · rw [e]
    have : c ∈ cp x := List.mem_of_getElem? ((at_iff _ _ _).mp h1)
    simp [this]
/-- zeros at the end go -/
theorem rstrip_at {x : Str} {c k : Nat} {a : List Nat} (h : cp x = a ++ List.replicate k c) (hn : ∀ d, a.getLast? = some d → d ≠ c) : cp (Txt.rstripChars x ⟨#[c]⟩) = a := by
  have hg : (fun d => (⟨#[c]⟩ : Str).cps.contains d) = fun d => d == c := by
    funext d; rw [Bool.eq_iff_iff]; simp
  have tw : ((cp x).reverse.takeWhile fun d => (⟨#[c]⟩ : Str).cps.contains d).length = k := by
    rw [hg, h, List.reverse_append, List.reverse_replicate]
    have : ∀ (k : Nat) (l : List Nat), (∀ d, l.head? = some d → d ≠ c) → ((List.replicate k c ++ l).takeWhile fun d => d == c).length = k := by
      intro k
      induction k with
      | zero =>
        intro l hl
        cases l with
        | nil => rfl
        | cons d l => simp only [List.replicate_zero, List.nil_append]; rw [List.takeWhile_cons_of_neg (by simpa using hl d rfl)]; rfl
      | succ k ih =>
        intro l hl
        rw [List.replicate_succ, List.cons_append, List.takeWhile_cons_of_pos (by simp), List.length_cons, ih l hl]
    refine this k a.reverse fun d hd => hn d ?_
    rwa [List.head?_reverse] at hd
  have hi : stripHi (⟨#[c]⟩ : Str).cps.contains true x 0 = a.length := by
    unfold stripHi
    rw [if_pos rfl, List.drop_zero]
    have : x.length = a.length + k := by rw [cp_len, h]; simp
    have tw : (List.takeWhile (⟨#[c]⟩ : Str).cps.contains x.cps.toList.reverse).length = k := tw
    lia
  have lo : stripLo (⟨#[c]⟩ : Str).cps.contains false x = 0 := rfl
  unfold Txt.rstripChars Txt.stripBy
  split
  · rename_i hs
    unfold stripSame at hs
    rw [lo, hi] at hs
    simp only [beq_self_eq_true, Bool.true_and, beq_iff_eq] at hs
    have : x.length = a.length + k := by rw [cp_len, h]; simp
    have : k = 0 := by lia
    subst this
    rw [h]; simp
  · unfold PySem.stripped
    rw [lo, hi]
    have := strSub_toList x 0 a.length
    show (strSub x 0 a.length).cps.toList = a
    rw [this]
    show ((cp x).drop 0).take (a.length - 0) = a
    rw [h]; simp
theorem cp_mul {c : Nat} {n : Int} (h : 1 ≤ n) : cp (Txt.mul ⟨#[c]⟩ n) = List.replicate n.toNat c := by
  unfold Txt.mul
  rw [if_neg (by lia)]
  split
  · rename_i q
    have : n = 1 := by simpa [Str.length] using q
    subst this; rfl
  · show ((List.replicate n.toNat #[c]).foldl (· ++ ·) #[]).toList = _
    have : ∀ (k : Nat) (acc : Array Nat), ((List.replicate k #[c]).foldl (· ++ ·) acc).toList = acc.toList ++ List.replicate k c := by
      intro k
      induction k with
      | zero => intro acc; simp
      | succ k ih => intro acc; rw [List.replicate_succ, List.foldl_cons, ih]; simp [List.replicate_succ]
    rw [this]; simp
theorem len_sl_le (x : Str) (lo hi : Option Int) : (strSl x lo hi).length ≤ x.length := by
  unfold strSl
  split
  · exact Nat.le_refl _
  · show ((List.filterMap _ _).toArray).size ≤ _
    rw [List.size_toArray]
    refine Nat.le_trans (List.length_filterMap_le _ _) ?_
    unfold strSliceIndices
    refine sliceRange_length_le _ _ _ _ (fun _ => ?_) (fun h => absurd (by decide) h)
    simp only [show (1 : Int) > 0 by decide, if_true]
    constructor
    · cases lo <;> simp <;> lia
    · cases hi <;> simp <;> lia
theorem len_rstrip_le (x y : Str) : (Txt.rstripChars x y).length ≤ x.length := by
  unfold Txt.rstripChars Txt.stripBy
  split
  · exact Nat.le_refl _
  · unfold PySem.stripped
    rw [cp_len]
    show (strSub _ _ _).cps.toList.length ≤ _
    rw [strSub_toList, cp_len]
    simp only [cp, List.length_take, List.length_drop]; lia
theorem len_rjust_le (x : Str) (i : Int) (c : Nat) : (Txt.rjustF x i c).length ≤ x.length + i.toNat := by
  rw [cp_len, cp_rjust, cp_len]; simp; lia
end
section
variable {x : Str} {d : V} {r : List (Str × V)} {a1 a2 a3 a4 a5 a6 a7 a8 a9 a10 a11 a12 a13 a14 : Str × V}
theorem lk1 (h : List.lookup x (a1 :: (x, d) :: r) = some d) : List.lookup x (a1 :: (x, d) :: r) = some d := h
theorem lk2 (h : List.lookup x (a1 :: a2 :: (x, d) :: r) = some d) : List.lookup x (a1 :: a2 :: (x, d) :: r) = some d := h
theorem lk3 (h : List.lookup x (a1 :: a2 :: a3 :: (x, d) :: r) = some d) : List.lookup x (a1 :: a2 :: a3 :: (x, d) :: r) = some d := h
theorem lk4 (h : List.lookup x (a1 :: a2 :: a3 :: a4 :: (x, d) :: r) = some d) : List.lookup x (a1 :: a2 :: a3 :: a4 :: (x, d) :: r) = some d := h
theorem lk5 (h : List.lookup x (a1 :: a2 :: a3 :: a4 :: a5 :: (x, d) :: r) = some d) : List.lookup x (a1 :: a2 :: a3 :: a4 :: a5 :: (x, d) :: r) = some d := h
theorem lk6 (h : List.lookup x (a1 :: a2 :: a3 :: a4 :: a5 :: a6 :: (x, d) :: r) = some d) : List.lookup x (a1 :: a2 :: a3 :: a4 :: a5 :: a6 :: (x, d) :: r) = some d := h
theorem lk7 (h : List.lookup x (a1 :: a2 :: a3 :: a4 :: a5 :: a6 :: a7 :: (x, d) :: r) = some d) : List.lookup x (a1 :: a2 :: a3 :: a4 :: a5 :: a6 :: a7 :: (x, d) :: r) = some d := h
theorem lk8 (h : List.lookup x (a1 :: a2 :: a3 :: a4 :: a5 :: a6 :: a7 :: a8 :: (x, d) :: r) = some d) : List.lookup x (a1 :: a2 :: a3 :: a4 :: a5 :: a6 :: a7 :: a8 :: (x, d) :: r) = some d := h
theorem lk9 (h : List.lookup x (a1 :: a2 :: a3 :: a4 :: a5 :: a6 :: a7 :: a8 :: a9 :: (x, d) :: r) = some d) : List.lookup x (a1 :: a2 :: a3 :: a4 :: a5 :: a6 :: a7 :: a8 :: a9 :: (x, d) :: r) = some d := h
theorem lk10 (h : List.lookup x (a1 :: a2 :: a3 :: a4 :: a5 :: a6 :: a7 :: a8 :: a9 :: a10 :: (x, d) :: r) = some d) : List.lookup x (a1 :: a2 :: a3 :: a4 :: a5 :: a6 :: a7 :: a8 :: a9 :: a10 :: (x, d) :: r) = some d := h
theorem lk11 (h : List.lookup x (a1 :: a2 :: a3 :: a4 :: a5 :: a6 :: a7 :: a8 :: a9 :: a10 :: a11 :: (x, d) :: r) = some d) : List.lookup x (a1 :: a2 :: a3 :: a4 :: a5 :: a6 :: a7 :: a8 :: a9 :: a10 :: a11 :: (x, d) :: r) = some d := h
theorem lk12 (h : List.lookup x (a1 :: a2 :: a3 :: a4 :: a5 :: a6 :: a7 :: a8 :: a9 :: a10 :: a11 :: a12 :: (x, d) :: r) = some d) : List.lookup x (a1 :: a2 :: a3 :: a4 :: a5 :: a6 :: a7 :: a8 :: a9 :: a10 :: a11 :: a12 :: (x, d) :: r) = some d := h
theorem lk13 (h : List.lookup x (a1 :: a2 :: a3 :: a4 :: a5 :: a6 :: a7 :: a8 :: a9 :: a10 :: a11 :: a12 :: a13 :: (x, d) :: r) = some d) : List.lookup x (a1 :: a2 :: a3 :: a4 :: a5 :: a6 :: a7 :: a8 :: a9 :: a10 :: a11 :: a12 :: a13 :: (x, d) :: r) = some d := h
theorem lk14 (h : List.lookup x (a1 :: a2 :: a3 :: a4 :: a5 :: a6 :: a7 :: a8 :: a9 :: a10 :: a11 :: a12 :: a13 :: a14 :: (x, d) :: r) = some d) : List.lookup x (a1 :: a2 :: a3 :: a4 :: a5 :: a6 :: a7 :: a8 :: a9 :: a10 :: a11 :: a12 :: a13 :: a14 :: (x, d) :: r) = some d := h
end
noncomputable def rng (n : Nat) : List V := (List.range n).map fun j : Nat => V.int j
theorem rng_get {n i : Nat} {d : V} (h : (rng n)[i]? = some d) : i < n ∧ d = .int i := by
  unfold rng at h
  rw [List.getElem?_map, Option.map_eq_some_iff] at h
  obtain ⟨a, h1, rfl⟩ := h
  rw [List.getElem?_eq_some_iff] at h1
  obtain ⟨h2, h3⟩ := h1
  simp at h2 h3
  exact ⟨h2, by rw [h3]⟩
theorem rngf_get {f : Nat → V} {n i : Nat} {d : V} (h : ((List.range n).map f)[i]? = some d) : i < n ∧ d = f i := by
  rw [List.getElem?_map, Option.map_eq_some_iff] at h
  obtain ⟨a, h1, rfl⟩ := h
  rw [List.getElem?_eq_some_iff] at h1
  obtain ⟨h2, h3⟩ := h1
  simp only [List.length_range, List.getElem_range] at h2 h3
  exact ⟨h2, by rw [h3]⟩
theorem rng_len (n : Nat) : (rng n).length = n := by simp [rng]
section
variable {c : Ctx} {X : Str → Prop} {σ : S} {pos : Pos} {p : Pos}
theorem it_r1 (O : c.Ok) {e : Expr} {J : List V → S → Prop} (hs : isStar e = false) (hk : c.env.kindOf (.ofString "range") = some .globalImplicit) (hg : nsIn c.K mainGlobals (.ofString "range") = some none)
    (h : EL c X pos [e] σ fun ds σ₁ => ∃ n : Int, ds = [.int n] ∧ (-1000000 ≤ n ∧ n ≤ 1000000) ∧ J (rng n.toNat) σ₁) : IT c X (.Call (.Name (.ofString "range") p) [e] [] pos) σ J := by
  refine it_range O (by simp only [noStars, hs]; rfl) hk hg fun s m P oa Φ E I p x => h s m P oa Φ E I (fun v d σ' h' tk' m' P' I' g r q => p v d σ' h' tk' m' P' I' g r ?_) x
  obtain ⟨n, rfl, hn, q⟩ := q
  refine ⟨0, n, 1, .one, ?_, ?_⟩
  · simp only [rangeOk, Bool.and_eq_true, decide_eq_true_eq]; lia
  · have e : rangeL 0 n 1 = rng n.toNat := by
      unfold rangeL rng
      have : (if (0 : Int) < n then (n - 0 - 1) / 1 + 1 else 0).toNat = n.toNat := by split <;> lia
      rw [this]
      simp
    rw [e]; exact q
theorem it_r2 (O : c.Ok) {e e' : Expr} {J : List V → S → Prop} (hs : noStars [e, e'] = true) (hk : c.env.kindOf (.ofString "range") = some .globalImplicit) (hg : nsIn c.K mainGlobals (.ofString "range") = some none)
    (h : EL c X pos [e, e'] σ fun ds σ₁ => ∃ n : Nat, ds = [.int 1, .int n] ∧ n ≤ 1000000 ∧ J ((List.range (n - 1)).map fun j : Nat => V.int (1 + j)) σ₁) : IT c X (.Call (.Name (.ofString "range") p) [e, e'] [] pos) σ J := by
  refine it_range O hs hk hg fun s m P oa Φ E I p x => h s m P oa Φ E I (fun v d σ' h' tk' m' P' I' g r q => p v d σ' h' tk' m' P' I' g r ?_) x
  obtain ⟨n, rfl, hn, q⟩ := q
  refine ⟨1, n, 1, .two, ?_, ?_⟩
  · simp only [rangeOk, Bool.and_eq_true, decide_eq_true_eq]; lia
  · have e : rangeL 1 n 1 = (List.range (n - 1)).map fun j : Nat => V.int (1 + j) := by
      unfold rangeL
      have : (if (1 : Int) < n then ((n : Int) - 1 - 1) / 1 + 1 else 0).toNat = n - 1 := by split <;> lia
      rw [this]
      simp
    rw [e]; exact q
theorem it_r3 (O : c.Ok) {e e' e'' : Expr} {J : List V → S → Prop} (hs : noStars [e, e', e''] = true) (hk : c.env.kindOf (.ofString "range") = some .globalImplicit) (hg : nsIn c.K mainGlobals (.ofString "range") = some none)
    (h : EL c X pos [e, e', e''] σ fun ds σ₁ => ∃ n : Nat, ds = [.int 0, .int ((n : Int) - 1), .int 2] ∧ n ≤ 1000000 ∧ J ((List.range (n / 2)).map fun j : Nat => V.int (2 * j)) σ₁) : IT c X (.Call (.Name (.ofString "range") p) [e, e', e''] [] pos) σ J := by
  refine it_range O hs hk hg fun s m P oa Φ E I p x => h s m P oa Φ E I (fun v d σ' h' tk' m' P' I' g r q => p v d σ' h' tk' m' P' I' g r ?_) x
  obtain ⟨n, rfl, hn, q⟩ := q
  refine ⟨0, (n : Int) - 1, 2, .three, ?_, ?_⟩
  · simp only [rangeOk, Bool.and_eq_true, decide_eq_true_eq]; lia
  · have e : rangeL 0 ((n : Int) - 1) 2 = (List.range (n / 2)).map fun j : Nat => V.int (2 * j) := by
      unfold rangeL
      have : (if (0 : Int) < (n : Int) - 1 then ((n : Int) - 1 - 0 - 1) / 2 + 1 else 0).toNat = n / 2 := by split <;> lia
      rw [this]
      apply List.map_congr_left
      intro j _
      congr 1; lia
    rw [e]; exact q
theorem it_l {e : Expr} {J : List V → S → Prop} (h : EV c X e σ fun d σ₁ => ∃ l, d = .lst l ∧ J l σ₁) : IT c X e σ J := it_list h
end
theorem lstSl_from {α : Type} (l : List α) {i : Int} (h0 : 0 ≤ i) (h1 : i ≤ l.length) : lstSl l (some i) none = l.drop i.toNat := by
  unfold lstSl
  have e : sliceBounds (some i) none none l.length = (i, (l.length : Int), 1) := by
    simp only [sliceBounds, Option.getD_none]
    have h2 : ¬ (i < 0) := by lia
    simp only [h2, if_false, show (1 : Int) > 0 by decide, if_true]
    congr 1; lia
  rw [e]
  simp only
  obtain ⟨k, rfl⟩ := Int.eq_ofNat_of_zero_le h0
  rw [sliceRange_one]
  have z := StrLaws.picks l (l.length - k) k (by lia)
  rw [Int.toNat_natCast, z, List.take_of_length_le (by rw [List.length_drop]; exact Nat.le_refl _)]
theorem lstSl_to {α : Type} (l : List α) {i : Int} (h0 : 0 ≤ i) : lstSl l none (some i) = l.take i.toNat := by
  unfold lstSl
  have e : sliceBounds none (some i) none l.length = (0, min i (l.length : Int), 1) := by
    simp only [sliceBounds, Option.getD_none]
    have h2 : ¬ (i < 0) := by lia
    simp only [h2, if_false, show (1 : Int) > 0 by decide, if_true]
    congr 2
    lia
  rw [e]
  simp only
  obtain ⟨k, rfl⟩ := Int.eq_ofNat_of_zero_le h0
  have : min (k : Int) (l.length : Int) = ((min k l.length : Nat) : Int) := by lia
  rw [this, show (0 : Int) = ((0 : Nat) : Int) from rfl, sliceRange_one]
  have z := StrLaws.picks l (min k l.length) 0 (by lia)
  rw [Nat.sub_zero, z, List.drop_zero, Int.toNat_natCast]
  by_cases h : k ≤ l.length
  · rw [Nat.min_eq_left h]
  · rw [Nat.min_eq_right (by lia), List.take_length, List.take_of_length_le (by lia)]
local macro_rules | `(tactic| wtm_at "xev") => `(tactic| (first | ((with_reducible show EV _ _ (.Name ..) _ _); wtm_at "xe1") | ((with_reducible show EV _ _ (.Constant ..) _ _); wtm_at "xe2") | with_reducible refine ev_bin ?_ | ((with_reducible refine ev_cmp ?_ ?_ ?_ ); (with_reducible assumption); rfl) | with_reducible refine ev_slice ?_ | ((with_reducible show EV _ _ (.Subscript ..) _ _); wtm_at "xe3") | ((with_reducible refine ev_attr ?_ ?_ ); (with_reducible assumption)) | with_reducible refine ev_if ?_ | with_reducible refine ev_neg ?_ | wtm_at "xe4" | with_reducible refine ev_tup ?_ | with_reducible refine ev_list ?_ | ((with_reducible show EV _ _ (.Call (.Name ..) ..) _ _); wtm_at "xe5") | ((with_reducible show EV _ _ (.Call (.Attribute ..) ..) _ _); wtm_at "xe6")))
local macro_rules | `(tactic| wtm_at "xe1") => `(tactic| (first | ((with_reducible apply ev_name); (with_reducible assumption); decide +kernel; wtm_at "xlk") | ((with_reducible refine ev_own ?_ ?_ ?_ ); (with_reducible assumption); decide +kernel)))
local macro_rules | `(tactic| wtm_at "xe2") => `(tactic| (with_reducible first | refine ev_int ?_ | refine ev_str ?_ | refine ev_none ?_ | refine ev_bool ?_))
local macro_rules | `(tactic| wtm_at "xe3") => `(tactic| (first | ((with_reducible refine ev_oi ?_ ?_ ?_ ?_ ); (with_reducible assumption); decide +kernel; rfl) | ((with_reducible refine ev_item ?_ ?_ ); rfl)))
local macro_rules | `(tactic| wtm_at "xe4") => `(tactic| (with_reducible first | refine ev_one ?_ | refine ev_and ?_ | refine ev_or ?_))
local macro_rules | `(tactic| wtm_at "xe5") => `(tactic| (first | ((with_reducible refine ev_ol ?_ ?_ ?_ ?_ ?_ ?_ ); (with_reducible assumption); decide +kernel; wtm_at "xglo"; wtm_at "xbui"; wtm_at "xlen") | ((with_reducible apply ev_fn); (with_reducible assumption); (with_reducible assumption); decide +kernel; rfl; wtm_at "xglo"; (first | exact Or.inl rfl | exact Or.inr (by assumption))) | ((with_reducible refine ev_vec ?_ ?_ ?_ ?_ ?_ ); (with_reducible assumption); rfl; wtm_at "xglo"; lia) | ((with_reducible refine ev_isvec ?_ ?_ ?_ ?_ ?_ ?_ ); (with_reducible assumption); rfl; wtm_at "xglo"; wtm_at "xbui"; wtm_at "xglo") | ((with_reducible refine ev_islist ?_ ?_ ?_ ?_ ?_ ?_ ?_ ); (with_reducible assumption); rfl; wtm_at "xglo"; wtm_at "xbui"; wtm_at "xglo"; wtm_at "xbui") | wtm_at "xeb1"))
local macro_rules | `(tactic| wtm_at "xeb1") => `(tactic| ((with_reducible first | refine ev_len ?_ ?_ ?_ ?_ ?_ | refine ev_abs ?_ ?_ ?_ ?_ ?_ | refine ev_strf ?_ ?_ ?_ ?_ ?_ | refine ev_intf ?_ ?_ ?_ ?_ ?_ | refine ev_max ?_ ?_ ?_ ?_ ?_ | refine ev_listf ?_ ?_ ?_ ?_ ?_ | refine ev_sorted ?_ ?_ ?_ ?_ ?_); (with_reducible assumption); rfl; wtm_at "xglo"; wtm_at "xbui"))
local macro_rules | `(tactic| wtm_at "xe6") => `(tactic| ((with_reducible first | refine ev_rjust ?_ ?_ ?_ ?_ ?_ ?_ | refine ev_find ?_ ?_ ?_ ?_ ?_ ?_ | refine ev_rstrip ?_ ?_ ?_ ?_ ?_ ?_ | refine ev_join ?_ ?_ ?_ ?_ ?_ ?_); (with_reducible assumption); rfl; rfl; decide; rfl))
local macro_rules | `(tactic| wtm_at "xop") => `(tactic| (first | ((with_reducible show binR ..); wtm_at "xo1") | ((with_reducible show cmpR ..); wtm_at "xo2") | ((with_reducible show getR ..); wtm_at "xo3") | ((with_reducible show bltR ..); wtm_at "xo4") | ((with_reducible show thenQ ..); wtm_at "xo6") | ((with_reducible show fnQ ..); wtm_at "xo7") | wtm_at "xo8" | ((with_reducible show mthR ..); wtm_at "xo5") | ((with_reducible show attrR ..); wtm_at "xo9") | ((with_reducible show sliceR ..); wtm_at "xs4") | ((with_reducible refine l_append ?_ ?_ ); wtm_at "xlen") | ((with_reducible refine len_and ?_ ?_ ); wtm_at "xlen")))
local macro_rules | `(tactic| wtm_at "xo1") => `(tactic| (first | with_reducible refine bin_add ?_ | with_reducible refine bin_sub ?_ | ((with_reducible refine bin_mode ?_ ?_ ); lia) | ((with_reducible refine bin_dive ?_ ?_ ); lia) | ((with_reducible refine bin_mul ?_ ?_ ); lia) | ((with_reducible refine bin_one ?_ ?_ ); exact ⟨rfl, rfl⟩) | ((with_reducible refine bin_cat ?_ ?_ ); wtm_at "xsl")))
local macro_rules | `(tactic| wtm_at "xo2") => `(tactic| (with_reducible first | refine cmp_eq ?_ | refine cmp_ne ?_ | refine cmp_lt ?_ | refine cmp_gt ?_ | refine cmp_le ?_ | refine cmp_ge ?_ | refine cmp_seq ?_ | refine cmp_sne ?_ | refine is_int ?_ | refine is_str ?_ | refine is_tup ?_ | refine is_lst ?_ | refine is_bool ?_ | refine is_nn ?_ | refine isn_int ?_ | refine isn_str ?_ | refine isn_tup ?_ | refine isn_lst ?_ | refine isn_bool ?_ | refine isn_nn ?_))
local macro_rules | `(tactic| wtm_at "xo3") => `(tactic| ((with_reducible first | refine get_t0 ?_ ?_ | refine get_t1 ?_ ?_ | refine get_t2 ?_ ?_); simp))
local macro_rules | `(tactic| wtm_at "xo4") => `(tactic| (first | with_reducible refine b_abs ?_ | with_reducible refine b_max ?_ | with_reducible refine b_int ?_ | ((with_reducible refine b_lenl ?_ ?_ ); wtm_at "xlen") | ((with_reducible refine b_str ?_ ?_ ); lia) | ((with_reducible refine b_lens ?_ ?_ ); wtm_at "xsl")))
local macro_rules | `(tactic| wtm_at "xo9") => `(tactic| (with_reducible first | refine at_kind ?_ | refine at_items ?_))
local macro_rules | `(tactic| wtm_at "xo6") => `(tactic| (with_reducible first | refine thenQ_ret ?_ | refine thenQ_next ?_ | refine thenQ_cont ?_))
local macro_rules | `(tactic| wtm_at "xo7") => `(tactic| (with_reducible first | refine fnQ_ret ?_ | refine fnQ_next ?_))
local macro_rules | `(tactic| wtm_at "xo8") => `(tactic| (first | wtm_at "xex" | wtm_at "xif" | wtm_at "xoc"))
local macro_rules | `(tactic| wtm_at "xoc") => `(tactic| (with_reducible first | refine callQ_ret ?_ | refine ep_none ?_ | refine ep_some ?_ | refine flQ_ret ?_))
local macro_rules | `(tactic| wtm_at "xif") => `(tactic| ((with_reducible show ite ..); (first | (with_reducible first | refine ite_tt ?_ | refine ite_ff ?_ | refine ite_not ?_) | ((with_reducible refine ite_seqT ?_ ?_); decide) | ((with_reducible refine ite_seqF ?_ ?_); decide))))
local macro_rules | `(tactic| wtm_at "xo5") => `(tactic| (first | with_reducible refine m_find ?_ | ((with_reducible refine m_rstrip ?_ ?_ ); wtm_at "xs6") | ((with_reducible refine m_rjust ?_ ?_ ); wtm_at "xs7")))
local macro_rules | `(tactic| wtm_at "xs4") => `(tactic| (first | ((with_reducible refine sl_str ?_ ?_ ); wtm_at "xs5")))
local macro_rules | `(tactic| wtm_at "xeb") => `(tactic| (first | wtm_at "xeb2" | ((with_reducible refine eb_cmp ?_ ?_ ?_ ); (with_reducible assumption); rfl) | ((with_reducible refine eb_chain ?_ ?_ ?_ ); (with_reducible assumption); rfl) | ((with_reducible refine eb_val ?_ ?_ ); rfl)))
local macro_rules | `(tactic| wtm_at "xeb2") => `(tactic| (with_reducible first | refine eb_not ?_ | refine eb_and_nil ?_ | refine eb_or_nil ?_ | refine eb_and ?_ | refine eb_or ?_))
local macro_rules | `(tactic| wtm_at "xel") => `(tactic| (first | with_reducible refine el_nil ?_ | ((with_reducible refine el_cons ?_ ?_ ); rfl)))
local macro_rules | `(tactic| wtm_at "xsp") => `(tactic| (first | with_reducible refine ss_pn ?_ | ((with_reducible refine ss_ps ?_ ?_ ); kernel_rfl) | ((with_reducible refine ss_mn ?_ ?_ ); kernel_rfl) | ((with_reducible refine ss_ms ?_ ?_ ); kernel_rfl) | wtm_at "xsq"))
local macro_rules | `(tactic| wtm_at "xst") => `(tactic| (first | wtm_at "xs0" | wtm_at "xs2" | ((with_reducible apply ss_aug); (with_reducible assumption); decide +kernel; wtm_at "xbnd"; wtm_at "xlk") | wtm_at "xs3" | ((with_reducible apply ss_for); (with_reducible assumption); (with_reducible assumption); wtm_at "xbnd"; rfl) | ((with_reducible refine ss_raise ?_ ?_ ?_ ?_ ?_ ); (with_reducible assumption); rfl; wtm_at "xglo"; lia)))
local macro_rules | `(tactic| wtm_at "xs0") => `(tactic| (with_reducible first | refine ss_nil ?_ | refine ss_ret ?_ | refine ss_if0 ?_ | refine ss_if ?_ | refine ss_cont ?_))
local macro_rules | `(tactic| wtm_at "xs2") => `(tactic| (first | ((with_reducible apply ss_unpack); (with_reducible assumption); wtm_at "xnm"; wtm_at "xbnds"; rfl; (intro _; rfl)) | ((with_reducible refine ss_list ?_ ?_ ?_ ); (with_reducible assumption); wtm_at "xloc") | ((with_reducible refine ss_assign ?_ ?_ ?_ ?_ ); (with_reducible assumption); rfl; wtm_at "xbnd") | ((with_reducible refine ss_setitem ?_ ?_ ?_ ?_ ); (with_reducible assumption); decide +kernel; rfl)))
local macro_rules | `(tactic| wtm_at "xs3") => `(tactic| (first | ((with_reducible refine ss_append ?_ ?_ ?_ ?_ ?_ ); (with_reducible assumption); decide +kernel; rfl; rfl) | ((with_reducible refine ss_insert ?_ ?_ ?_ ?_ ?_ ); (with_reducible assumption); decide +kernel; rfl; rfl) | ((with_reducible refine ss_reverse ?_ ?_ ?_ ?_ ?_ ); (with_reducible assumption); decide +kernel; rfl; wtm_at "xlen") | ((with_reducible refine ss_expr ?_ ?_ ?_ ); (with_reducible assumption); rfl)))
local macro_rules | `(tactic| wtm_at "xss") => `(tactic| (wtm_at "xsn"; wtm_at "xst"))
local macro_rules | `(tactic| wtm_at "xit") => `(tactic| (first | ((with_reducible refine it_r1 ?_ ?_ ?_ ?_ ?_ ); (with_reducible assumption); rfl; wtm_at "xglo"; wtm_at "xbui") | ((with_reducible refine it_r2 ?_ ?_ ?_ ?_ ?_ ); (with_reducible assumption); rfl; wtm_at "xglo"; wtm_at "xbui") | ((with_reducible refine it_r3 ?_ ?_ ?_ ?_ ?_ ); (with_reducible assumption); rfl; wtm_at "xglo"; wtm_at "xbui") | with_reducible refine it_l ?_))
local macro_rules | `(tactic| wtm_at "xpt") => `(tactic| (first | ((with_reducible show IT _ _ _ _ _); wtm_at "xit") | ((with_reducible show EV _ _ _ _ _); wtm_at "xev") | ((with_reducible show EL _ _ _ _ _ _); wtm_at "xel") | ((with_reducible show EB _ _ _ _ _); wtm_at "xeb") | ((with_reducible show SS _ _ _ _ _); wtm_at "xs1") | wtm_at "xop"))
local macro_rules | `(tactic| wtm_at "xs1") => `(tactic| (first | wtm_at "xsp" | wtm_at "xss"))
local macro_rules | `(tactic| wtm_at "xph") => `(tactic| (first | ((with_reducible show SS _ _ _ _ _); (first | wtm_at "xsp" | ((fail_if_success with_reducible show SS _ _ (.If .. :: _) _ _); wtm_at "xss"))) | ((fail_if_success with_reducible show SS _ _ _ _ _); wtm_at "xpt")))
local macro_rules | `(tactic| wtm_at "xone") => `(tactic| (first | wtm_at "xpt" | wtm_at "xbr"))
local macro_rules | `(tactic| wtm_at "xmem") => `(tactic| (first | with_reducible exact List.mem_cons_self | ((with_reducible refine List.mem_cons_of_mem _ ?_); wtm_at "xmem")))
local macro_rules | `(tactic| wtm_at "xstr") => `(tactic| (simp only [S.put, S.shut, S.mk', setV, delV, List.filter_cons, List.filter_nil, ofStr_beq, String.reduceBEq, Bool.not_false, Bool.not_true, Bool.false_eq_true, if_false, if_true, ↓reduceIte, List.lookup_cons, List.lookup_nil]))
local macro_rules | `(tactic| wtm_at "xglo") => `(tactic| (exact NF'.glo (by with_reducible assumption) _ (by wtm_at "xmem")))
local macro_rules | `(tactic| wtm_at "xloc") => `(tactic| (exact NF'.loc (by with_reducible assumption) _ (by wtm_at "xmem")))
local macro_rules | `(tactic| wtm_at "xbnd") => `(tactic| (first | (apply Or.inl; wtm_at "xloc") | (apply Or.inr; (with_reducible apply NF'.cel); (with_reducible assumption); wtm_at "xmem")))
local macro_rules | `(tactic| wtm_at "xbnds") => `(tactic| (repeat (first | exact List.forall_mem_nil _ | (refine List.forall_mem_cons.mpr ⟨?_, ?_⟩; wtm_at "xbnd"))))
local macro_rules | `(tactic| wtm_at "xbui") => `(tactic| (exact Bui.get (by with_reducible assumption) (by wtm_at "xmem")))
local macro_rules | `(tactic| wtm_at "xnm") => `(tactic| (repeat (with_reducible first | exact NameL.nil | apply NameL.cons)))
local macro_rules | `(tactic| wtm_at "xln") => `(tactic| (simp only [List.length_cons, List.length_nil, List.length_append, List.length_reverse, List.length_map]))
local macro_rules | `(tactic| wtm_at "xlen") => `(tactic| (first | (wtm_at "xln"; lia) | (wtm_at "xln"; done) | lia))
local macro_rules | `(tactic| wtm_at "xex") => `(tactic| (first | with_reducible refine Exists.intro _ (And.intro rfl ?_) | ((with_reducible refine' ex_tup ?h ?_); case h => rfl)))
local macro_rules | `(tactic| wtm_at "xsq") => `(tactic| ((with_reducible first | show SS _ _ _ (S.put ..) _ | show SS _ _ _ (S.mk' ..) _); wtm_at "xstr"; (try dsimp only)))
local macro_rules | `(tactic| wtm_at "xsn") => `(tactic| (with_reducible first | show SS _ _ _ ⟨_ :: _, none⟩ _ | show SS _ _ _ ⟨_ :: _, some (_, _)⟩ _ | show SS _ _ _ ⟨[], _⟩ _ | (try dsimp only)))
local macro_rules | `(tactic| wtm_at "xcn") => `(tactic| (subst_vars; exact CompNames.of (by kernel_rfl) rfl (by kernel_rfl) (by kernel_rfl) (by first | exact List.forall_mem_nil _ | exact List.forall_mem_cons.mpr ⟨⟨by kernel_rfl, .inl (by kernel_rfl), .inl (by kernel_rfl)⟩, List.forall_mem_nil _⟩)))
local macro_rules | `(tactic| wtm_at "xsw") => `(tactic| (subst_vars; kernel_rfl))
local macro_rules | `(tactic| wtm_at "xgo") => `(tactic| (repeat (wtm_at "xpt")))
local macro_rules | `(tactic| wtm_at "xgh") => `(tactic| (repeat (wtm_at "xph")))
local macro_rules | `(tactic| wtm_at "xbr") => `(tactic| ((with_reducible first | refine ite_dec ?_ ?_ | refine ite_beq ?_ ?_ | refine ite_bne ?_ ?_ | refine ite_b ?_ ?_) <;> intro _))
local macro_rules | `(tactic| wtm_at "xall") => `(tactic| (repeat' (wtm_at "xone")))
local macro_rules | `(tactic| wtm_at "xallx") => `(tactic| (repeat' (first | wtm_at "xpt" | (wtm_at "xbr" <;> try (exfalso; lia)))))
local macro_rules | `(tactic| wtm_at "xsubs") => `(tactic| ((try dsimp only); repeat (with_reducible first | exact SubL.nil | (refine SubL.cons ?_ ?_; first | wtm_at "xlk" | kernel_rfl))))
local macro_rules | `(tactic| wtm_at "xsub") => `(tactic| (refine ⟨rfl, ?_⟩; wtm_at "xsubs"))
local macro_rules | `(tactic| wtm_at "xlk") => `(tactic| (first | (with_reducible first | exact lk0 | exact lk1 (by kernel_rfl) | exact lk2 (by kernel_rfl) | exact lk3 (by kernel_rfl) | exact lk4 (by kernel_rfl) | exact lk5 (by kernel_rfl) | exact lk6 (by kernel_rfl) | exact lk7 (by kernel_rfl) | exact lk8 (by kernel_rfl) | exact lk9 (by kernel_rfl) | exact lk10 (by kernel_rfl) | exact lk11 (by kernel_rfl) | exact lk12 (by kernel_rfl) | exact lk13 (by kernel_rfl) | exact lk14 (by kernel_rfl)) | (wtm_at "xstr"; done) | (wtm_at "xstr"; with_reducible exact rfl)))
local macro_rules | `(tactic| wtm_at "xsl") => `(tactic| (with_reducible first | assumption | lia | (simp only [len_app]; lia)))
local macro_rules | `(tactic| wtm_at "xs5") => `(tactic| (with_reducible first | wtm_at "xsl" | (apply Nat.le_trans (len_sl_le _ _ _); wtm_at "xsl")))
local macro_rules | `(tactic| wtm_at "xs6") => `(tactic| (with_reducible first | wtm_at "xsl" | (apply Nat.le_trans (len_rstrip_le _ _); wtm_at "xsl")))
local macro_rules | `(tactic| wtm_at "xs7") => `(tactic| (with_reducible first | exact ⟨by decide +kernel, by decide +kernel⟩ | assumption))
noncomputable abbrev Num := Option (Int × Int)
noncomputable def Num.v : Num → V
  | none => .none
  | some (n, d) => .tup [.int n, .int d]
noncomputable def Num.na : Num → Bool
  | none => true
  | some (n, d) => decide (n = 0 ∧ d = 0)
noncomputable def Num.nan : Num → Bool
  | none => false
  | some (n, d) => decide (n = 0 ∧ d = 0)
noncomputable def Num.fin : Num → Bool
  | none => false
  | some (_, d) => decide (0 < d)
noncomputable abbrev nv (n d : Int) : V := .tup [.int n, .int d]
noncomputable def sp_is_na : Spec := fun ds R => ∃ q : Num, ds = [q.v] ∧ R (.ret (.bool q.na))
noncomputable def sp_is_nan : Spec := fun ds R => ∃ q : Num, ds = [q.v] ∧ R (.ret (.bool q.nan))
noncomputable def sp_is_finite : Spec := fun ds R => ∃ q : Num, ds = [q.v] ∧ R (.ret (.bool q.fin))
theorem call_is_na {a b : Int} {R : Res → Prop} (h : R (.ret (.bool (decide (a = 0 ∧ b = 0))))) : sp_is_na [nv a b] R := ⟨some (a, b), rfl, h⟩
theorem call_is_na0 {R : Res → Prop} (h : R (.ret (.bool true))) : sp_is_na [.none] R := ⟨none, rfl, h⟩
theorem call_is_nan {a b : Int} {R : Res → Prop} (h : R (.ret (.bool (decide (a = 0 ∧ b = 0))))) : sp_is_nan [nv a b] R := ⟨some (a, b), rfl, h⟩
theorem call_is_finite {a b : Int} {R : Res → Prop} (h : R (.ret (.bool (decide (0 < b))))) : sp_is_finite [nv a b] R := ⟨some (a, b), rfl, h⟩
theorem call_is_finite0 {R : Res → Prop} (h : R (.ret (.bool false))) : sp_is_finite [.none] R := ⟨none, rfl, h⟩
noncomputable def sp_to_whole : Spec := fun ds R => (∃ q : Num, ds = [q.v] ∧ q.fin = false ∧ R (.ret .none)) ∨ ∃ n : Int, ds = [nv n 1] ∧ 0 ≤ n ∧ R (.ret (.int n))
noncomputable def near (n d : Int) : Int := if d < 2 * (n - n / d * d) ∨ (2 * (n - n / d * d) = d ∧ n / d % 2 = 1) then n / d + 1 else n / d
noncomputable def sp_nearest_whole : Spec := fun ds R => ∃ n d : Int, ds = [.int n, .int d] ∧ 0 ≤ n ∧ 0 < d ∧ d < 2 ^ 64 ∧ R (.ret (.int (near n d)))
theorem call_nearest {n d : Int} {R : Res → Prop} (h0 : 0 ≤ n) (h1 : 0 < d ∧ d < 2 ^ 64) (h : R (.ret (.int (near n d)))) : sp_nearest_whole [.int n, .int d] R := ⟨n, d, rfl, h0, h1.1, h1.2, h⟩
section
variable {prog : Program} {w : World} {base : Heap} {mg mb : Str → Option Value} (G : Grd prog w (K39 w.params) base mg mb)
include G
theorem ok_is_na : FnOk true prog w base 3 89 sp_is_na := by
  have ho : (K39 w.params).lookup 89 = some ⟨_, _, .func (fnOf _ _ _ _ _ _ _ _ _ _ _ _), _⟩ := rfl
  refine fn_go G ho (by kernel_rfl) [.ofString "x"] [.ofString "x"] [] [] (len_1 fun _ s X => BindsTo.of_eq rfl) (by kernel_rfl) (by decide +kernel) (by kernel_rfl) [] trivial (fun ds R hsp => ?_)
  clear ho
  obtain ⟨q, rfl, hR⟩ := hsp
  refine ⟨rfl, fun c O N B hhi hlv hfn hD => ?_⟩
  simp only [List.zip_cons_cons, List.zip_nil_left]
  rcases q with _ | ⟨n, d⟩ <;> simp only [Num.v] <;> wtm_at "xgo"
  · exact hR
  · refine ite_beq (fun h => ?_) (fun h => ?_) <;> wtm_at "xgo"
    · rw [show (d == 0) = Num.na (some (n, d)) by rw [Bool.eq_iff_iff]; simp [Num.na, h]]; exact hR
    · rw [show (n == 0) = Num.na (some (n, d)) by rw [Bool.eq_iff_iff]; simp [Num.na, h]]; exact hR
theorem ok_is_nan : FnOk true prog w base 3 96 sp_is_nan := by
  have ho : (K39 w.params).lookup 96 = some ⟨_, _, .func (fnOf _ _ _ _ _ _ _ _ _ _ _ _), _⟩ := rfl
  refine fn_go G ho (by kernel_rfl) [.ofString "x"] [.ofString "x"] [] [] (len_1 fun _ s X => BindsTo.of_eq rfl) (by kernel_rfl) (by decide +kernel) (by kernel_rfl) [] trivial (fun ds R hsp => ?_)
  clear ho
  obtain ⟨q, rfl, hR⟩ := hsp
  refine ⟨rfl, fun c O N B hhi hlv hfn hD => ?_⟩
  simp only [List.zip_cons_cons, List.zip_nil_left]
  rcases q with _ | ⟨n, d⟩ <;> simp only [Num.v] <;> wtm_at "xgo"
  · exact hR
  · refine ite_beq (fun h => ?_) (fun h => ?_) <;> wtm_at "xgo"
    · rw [show (d == 0) = Num.nan (some (n, d)) by rw [Bool.eq_iff_iff]; simp [Num.nan, h]]; exact hR
    · rw [show (n == 0) = Num.nan (some (n, d)) by rw [Bool.eq_iff_iff]; simp [Num.nan, h]]; exact hR
theorem ok_is_finite : FnOk true prog w base 3 103 sp_is_finite := by
  have ho : (K39 w.params).lookup 103 = some ⟨_, _, .func (fnOf _ _ _ _ _ _ _ _ _ _ _ _), _⟩ := rfl
  refine fn_go G ho (by kernel_rfl) [.ofString "x"] [.ofString "x"] [] [] (len_1 fun _ s X => BindsTo.of_eq rfl) (by kernel_rfl) (by decide +kernel) (by kernel_rfl) [] trivial (fun ds R hsp => ?_)
  clear ho
  obtain ⟨q, rfl, hR⟩ := hsp
  refine ⟨rfl, fun c O N B hhi hlv hfn hD => ?_⟩
  simp only [List.zip_cons_cons, List.zip_nil_left]
  rcases q with _ | ⟨n, d⟩ <;> simp only [Num.v] <;> wtm_at "xgo"
  · exact hR
  · exact hR
theorem ok_to_whole : FnOk true prog w base 4 152 sp_to_whole := by
  have ho : (K39 w.params).lookup 152 = some ⟨_, _, .func (fnOf _ _ _ _ _ _ _ _ _ _ _ _), _⟩ := rfl
  refine fn_go G ho (by kernel_rfl) [.ofString "x"] [.ofString "x", .ofString "found"] [] [.ofString "is_finite", .ofString "abs"] (len_1 fun _ s X => BindsTo.of_eq rfl) (by kernel_rfl) (by decide +kernel) (by kernel_rfl) [(.ofString "is_finite", true, sp_is_finite)] (tbl_cons (ok_is_finite G) (by decide) (by kernel_rfl) rfl rfl trivial) (fun ds R hsp => ?_)
  clear ho
  rcases hsp with ⟨q, rfl, hq, hR⟩ | ⟨n, rfl, hn, hR⟩
  · refine ⟨rfl, fun c O N B hhi hlv hfn hD => ?_⟩
    have hf0 : c.fn (.ofString "is_finite") = some (true, sp_is_finite) := (hfn _).trans (by kernel_rfl)
    simp only [List.zip_cons_cons, List.zip_nil_left]
    wtm_at "xgo"
    refine ⟨q, rfl, ?_⟩
    rw [hq]
    wtm_at "xgo"
    exact hR
  · refine ⟨rfl, fun c O N B hhi hlv hfn hD => ?_⟩
    have hf0 : c.fn (.ofString "is_finite") = some (true, sp_is_finite) := (hfn _).trans (by kernel_rfl)
    simp only [List.zip_cons_cons, List.zip_nil_left]
    wtm_at "xgo"
    refine ⟨some (n, 1), rfl, ?_⟩
    rw [show Num.fin (some (n, 1)) = true from rfl]
    wtm_at "xallx"
    simpa [Int.natAbs_of_nonneg hn] using hR
theorem ok_nearest_whole : FnOk true prog w base 3 159 sp_nearest_whole := by
  have ho : (K39 w.params).lookup 159 = some ⟨_, _, .func (fnOf _ _ _ _ _ _ _ _ _ _ _ _), _⟩ := rfl
  refine fn_go G ho (by kernel_rfl) [.ofString "n", .ofString "d"] [.ofString "n", .ofString "d", .ofString "low", .ofString "rest"] [] [] (len_2 fun _ _ s X => BindsTo.of_eq rfl) (by kernel_rfl) (by decide +kernel) (by kernel_rfl) [] trivial (fun ds R hsp => ?_)
  clear ho
  obtain ⟨n, d, rfl, hn, hd, hd', hR⟩ := hsp
  refine ⟨rfl, fun c O N B hhi hlv hfn hD => ?_⟩
  simp only [List.zip_cons_cons, List.zip_nil_left]
  wtm_at "xall" <;> first | (rw [near, if_pos (by lia)] at hR; exact hR) | (rw [near, if_neg (by lia)] at hR; exact hR)
end
local macro_rules | `(tactic| wtm_at "xop") => `(tactic| (with_reducible first | refine call_is_na ?_ | refine call_is_na0 ?_ | refine call_is_nan ?_ | refine call_is_finite ?_ | refine call_is_finite0 ?_))
noncomputable def ExpOf (n d : Int) (e : Nat) : Prop := d * 10 ^ e ≤ n ∧ n < d * 10 ^ (e + 1)
noncomputable def sp_exponent : Spec := fun ds R => ∃ n d : Int, ds = [nv n d] ∧ 0 < d ∧ d ≤ n.natAbs ∧ ∀ e : Nat, ExpOf n.natAbs d e → R (.ret (.int e))
noncomputable def cmpNum : Num → Num → V
  | some (a, b), some (p, q) =>
    if (a = 0 ∧ b = 0) ∨ (p = 0 ∧ q = 0) then .none else
    let l := if b = 0 ∧ q = 0 then a else if b = 0 then a else if q = 0 then 0 else a * q
    let r := if b = 0 ∧ q = 0 then p else if b = 0 then 0 else if q = 0 then p else p * b
    .int (if l = r then 0 else if l < r then -1 else 1)
  | _, _ => .none
noncomputable def sp_compare : Spec := fun ds R => ∃ a b p q : Int, ds = [nv a b, nv p q] ∧ b.natAbs < 2 ^ 60 ∧ q.natAbs < 2 ^ 60 ∧ R (.ret (cmpNum (some (a, b)) (some (p, q))))
noncomputable def sp_whole_text : Spec := fun ds R => ∃ n : Int, ds = [.int n] ∧ 0 ≤ n ∧ n < 10 ^ 18 ∧ R (.ret (.str (intText n)))
noncomputable def sp_special_text : Spec := fun ds R => ∃ n d : Int, ds = [nv n d] ∧ 0 < d ∧ R (.ret .none)
theorem len_intText {n : Int} (h0 : 0 ≤ n) (h1 : n < 10 ^ 18) : (intText n).length ≤ 18 := by
  obtain ⟨k, rfl⟩ := Int.eq_ofNat_of_zero_le h0
  unfold intText
  rw [show toString (k : Int) = String.ofList (Nat.toDigits 10 k) from Nat.repr_eq_ofList_toDigits]
  have e : (Str.ofString (String.ofList (Nat.toDigits 10 k))).length = (Nat.toDigits 10 k).length := by
    rw [Str.ofString_eq_byList]; unfold Str.ofStringByList; simp [Str.length, String.toList_ofList]
  rw [e, Nat.length_toDigits_le_iff (by decide) (by decide)]
  lia
section
variable {prog : Program} {w : World} {base : Heap} {mg mb : Str → Option Value} (G : Grd prog w (K39 w.params) base mg mb)
include G
theorem ok_exponent : FnOk true prog w base 3 166 sp_exponent := by
  have ho : (K39 w.params).lookup 166 = some ⟨_, _, .func (fnOf _ _ _ _ _ _ _ _ _ _ _ _), _⟩ := rfl
  refine fn_go G ho (by kernel_rfl) [.ofString "x"] [.ofString "x", .ofString "n", .ofString "d", .ofString "e"] [] [.ofString "abs"] (len_1 fun _ s X => BindsTo.of_eq rfl) (by kernel_rfl) (by decide +kernel) (by kernel_rfl) [] trivial (fun ds R hsp => ?_)
  clear ho
  obtain ⟨n, d, rfl, hd, hle, hR⟩ := hsp
  refine ⟨rfl, fun c O N B hhi hlv hfn hD => ?_⟩
  simp only [List.zip_cons_cons, List.zip_nil_left]
  wtm_at "xgo"
  refine ss_while (fun k σ => ∃ D E : Int, σ = ⟨[(.ofString "x", nv n d), (.ofString "n", .int n.natAbs), (.ofString "d", .int D), (.ofString "e", .int E)], none⟩ ∧ k = (n.natAbs - D).toNat ∧ ∃ e : Nat, D = d * 10 ^ e ∧ E = e ∧ D ≤ n.natAbs ∧ 0 < D) _ _ (by wtm_at "xsub") ⟨_, _, rfl, rfl, 0, by simp, rfl, hle, hd⟩ ?_
  rintro k σ ⟨D, E, rfl, rfl, e, hD, rfl, h1, h2⟩
  wtm_at "xgo"
  wtm_at "xbr"
  · wtm_at "xgo"
    refine wlQ_next _ _ (by wtm_at "xsub") ?_ ⟨_, _, rfl, rfl, e + 1, by rw [hD, Int.pow_succ, Int.mul_assoc], by simp, by lia, by lia⟩
    lia
  · wtm_at "xgo"
    refine ss_while (fun k σ => σ = ⟨[(.ofString "x", nv n d), (.ofString "n", .int n.natAbs), (.ofString "d", .int D), (.ofString "e", .int e)], none⟩) 0 _ (by wtm_at "xsub") rfl ?_
    rintro k σ rfl
    wtm_at "xgo"
    wtm_at "xbr"
    · exfalso; lia
    · wtm_at "xgo"
      exact hR e ⟨by rw [← hD]; exact h1, by rw [Int.pow_succ, ← Int.mul_assoc, ← hD]; lia⟩
set_option maxHeartbeats 2000000 in
theorem ok_compare : FnOk true prog w base 4 173 sp_compare := by
  have ho : (K39 w.params).lookup 173 = some ⟨_, _, .func (fnOf _ _ _ _ _ _ _ _ _ _ _ _), _⟩ := rfl
  refine fn_go G ho (by kernel_rfl) [.ofString "x", .ofString "y"] [.ofString "x", .ofString "y", .ofString "left", .ofString "right"] [] [.ofString "is_na"] (len_2 fun _ _ s X => BindsTo.of_eq rfl) (by kernel_rfl) (by decide +kernel) (by kernel_rfl) [(.ofString "is_na", true, sp_is_na)] (tbl_cons (ok_is_na G) (by decide) (by kernel_rfl) rfl rfl trivial) (fun ds R hsp => ?_)
  clear ho
  obtain ⟨a, b, p, q, rfl, hb, hq, hR⟩ := hsp
  refine ⟨rfl, fun c O N B hhi hlv hfn hD => ?_⟩
  have hf0 : c.fn (.ofString "is_na") = some (true, sp_is_na) := (hfn _).trans (by kernel_rfl)
  simp only [List.zip_cons_cons, List.zip_nil_left]
  wtm_at "xallx"
  all_goals simp only [cmpNum] at hR
  all_goals (repeat' (split at hR)) <;> first | exact hR | (exfalso; lia)
theorem ok_special_text : FnOk true prog w base 3 187 sp_special_text := by
  have ho : (K39 w.params).lookup 187 = some ⟨_, _, .func (fnOf _ _ _ _ _ _ _ _ _ _ _ _), _⟩ := rfl
  refine fn_go G ho (by kernel_rfl) [.ofString "x"] [.ofString "x"] [] [] (len_1 fun _ s X => BindsTo.of_eq rfl) (by kernel_rfl) (by decide +kernel) (by kernel_rfl) [] trivial (fun ds R hsp => ?_)
  clear ho
  obtain ⟨n, d, rfl, hd, hR⟩ := hsp
  refine ⟨rfl, fun c O N B hhi hlv hfn hD => ?_⟩
  simp only [List.zip_cons_cons, List.zip_nil_left]
  wtm_at "xallx"
  exact hR
theorem ok_whole_text : FnOk true prog w base 3 180 sp_whole_text := by
  have ho : (K39 w.params).lookup 180 = some ⟨_, _, .func (fnOf _ _ _ _ _ _ _ _ _ _ _ _), _⟩ := rfl
  refine fn_go G ho (by kernel_rfl) [.ofString "n"] [.ofString "n", .ofString "rest", .ofString "row", .ofString "part"] [] [.ofString "abs", .ofString "divmod", .ofString "str"] (len_1 fun _ s X => BindsTo.of_eq rfl) (by kernel_rfl) (by decide +kernel) (by kernel_rfl) [] trivial (fun ds R hsp => ?_)
  clear ho
  obtain ⟨n, rfl, h0, h1, hR⟩ := hsp
  refine ⟨rfl, fun c O N B hhi hlv hfn hD => ?_⟩
  simp only [List.zip_cons_cons, List.zip_nil_left]
  wtm_at "xgo"
  refine ss_while (fun k σ => σ = ⟨[(.ofString "n", .int n), (.ofString "rest", .int n)], some (.ofString "row", [])⟩) 0 ⟨[(.ofString "n", .int n), (.ofString "rest", .int n)], some (.ofString "row", [])⟩ ⟨rfl, ?_⟩ rfl ?_
  · rw [show ((n.natAbs : Nat) : Int) = n by lia]
    wtm_at "xsubs"
  rintro k σ rfl
  wtm_at "xgo"
  refine bin_pow (by decide) ?_
  wtm_at "xgo"
  wtm_at "xbr"
  · exfalso
    have : (10 : Int) ^ (18 : Int).toNat = 10 ^ 18 := rfl
    lia
  wtm_at "xgo"
  wtm_at "xbr"
  · exfalso; lia
  wtm_at "xgo"
  simp only [List.nil_append, List.reverse_cons, List.reverse_nil]
  refine m_join (by have := len_intText h0 h1; lia) (by decide +kernel) ?_
  wtm_at "xgo"
  exact hR
end
theorem call_whole_text {n : Int} {R : Res → Prop} (h0 : 0 ≤ n) (h1 : n < 10 ^ 18) (h : R (.ret (.str (intText n)))) : sp_whole_text [.int n] R := ⟨n, rfl, h0, h1, h⟩
noncomputable def sigN (n d digits e : Int) : Int := if 0 ≤ digits - 1 - e then near (n.natAbs * 10 ^ (digits - 1 - e).toNat) d else near n.natAbs (d * 10 ^ (0 - (digits - 1 - e)).toNat)
noncomputable def sig (n d digits : Int) (e : Nat) : Int × Int := if (10 : Int) ^ digits.toNat ≤ sigN n d digits e then (sigN n d digits (e + 1), e + 1) else (sigN n d digits e, e)
structure Good (n d digits : Int) (e : Nat) : Prop where
  d0 : 0 < d
  le : d ≤ n.natAbs
  ex : ExpOf n.natAbs d e
  g0 : 1 ≤ digits
  g1 : digits ≤ 12
  e20 : e ≤ 20
  lim : d * 10 ^ (e + 2 - digits).toNat < 2 ^ 64
  big : 0 ≤ (sig n d digits e).1 ∧ (sig n d digits e).1 < 10 ^ 18
noncomputable def sp_scaled : Spec := fun ds R => ∃ n d e digits : Int, ds = [nv n d, .int e, .int digits] ∧ 0 < d ∧ 0 ≤ e ∧ e ≤ 30 ∧ 1 ≤ digits ∧ digits ≤ 12 ∧ d < 2 ^ 64 ∧ d * 10 ^ (e + 1 - digits).toNat < 2 ^ 64 ∧ R (.ret (.int (sigN n d digits e)))
noncomputable def sp_significant : Spec := fun ds R => (∃ d digits : Int, ds = [nv 0 d, .int digits] ∧ 0 < d ∧ 1 ≤ digits ∧ digits ≤ 12 ∧ R (.ret (.tup [.int 0, .str (Txt.mul (.ofString "0") digits), .int 0]))) ∨
  ∃ (n d digits : Int) (e : Nat), ds = [nv n d, .int digits] ∧ Good n d digits e ∧ R (.ret (.tup [.int (if 0 < n then 1 else -1), .str (intText (sig n d digits e).1), .int (sig n d digits e).2]))
theorem p10 {k : Int} (h : k ≤ 18) : 0 < (10 : Int) ^ k.toNat ∧ (10 : Int) ^ k.toNat < 2 ^ 64 := by
  refine ⟨Int.pow_pos (by decide), ?_⟩
  have h1 : (10 : Nat) ^ k.toNat ≤ 10 ^ 18 := Nat.pow_le_pow_right (by decide) (by lia)
  have h2 : (10 : Int) ^ k.toNat = ((10 ^ k.toNat : Nat) : Int) := by simp
  rw [h2]
  have : ((10 ^ k.toNat : Nat) : Int) ≤ ((10 ^ 18 : Nat) : Int) := Int.ofNat_le.mpr h1
  have h3 : ((10 ^ 18 : Nat) : Int) < 2 ^ 64 := by decide
  lia
theorem p10_mono {a b : Nat} (h : a ≤ b) : (10 : Int) ^ a ≤ 10 ^ b := by
  have h1 : (10 : Nat) ^ a ≤ 10 ^ b := Nat.pow_le_pow_right (by decide) h
  have h2 : ∀ k : Nat, (10 : Int) ^ k = ((10 ^ k : Nat) : Int) := fun k => by simp
  rw [h2, h2]
  exact Int.ofNat_le.mpr h1
theorem ExpOf.unique {n d : Int} {e e' : Nat} (h : ExpOf n d e) (h' : ExpOf n d e') (hd : 0 < d) : e = e' := by
  have key : ∀ {a b : Nat}, ExpOf n d a → ExpOf n d b → ¬ a < b := fun {a b} x y lt => by
    have := Int.mul_le_mul_of_nonneg_left (p10_mono (show a + 1 ≤ b from lt)) (Int.le_of_lt hd)
    have := x.2
    have := y.1
    lia
  have h1 := key h h'
  have h2 := key h' h
  lia
theorem Good.lim1 {n d digits : Int} {e : Nat} (g : Good n d digits e) : d * 10 ^ ((e : Int) + 1 - digits).toNat < 2 ^ 64 := by
  have := Int.mul_le_mul_of_nonneg_left (p10_mono (show ((e : Int) + 1 - digits).toNat ≤ ((e : Int) + 2 - digits).toNat by lia)) (Int.le_of_lt g.d0)
  have := g.lim
  lia
theorem Good.dlt {n d digits : Int} {e : Nat} (g : Good n d digits e) : d < 2 ^ 64 := by
  have := Int.mul_le_mul_of_nonneg_left (p10_mono (show 0 ≤ ((e : Int) + 2 - digits).toNat by lia)) (Int.le_of_lt g.d0)
  have := g.lim
  lia
theorem call_scaled {n d e digits : Int} {R : Res → Prop} (h : (0 < d ∧ 0 ≤ e ∧ e ≤ 30 ∧ 1 ≤ digits ∧ digits ≤ 12 ∧ d < 2 ^ 64) ∧ d * 10 ^ (e + 1 - digits).toNat < 2 ^ 64) (hR : R (.ret (.int (sigN n d digits e)))) : sp_scaled [nv n d, .int e, .int digits] R :=
  ⟨n, d, e, digits, rfl, h.1.1, h.1.2.1, h.1.2.2.1, h.1.2.2.2.1, h.1.2.2.2.2.1, h.1.2.2.2.2.2, h.2, hR⟩
section
variable {prog : Program} {w : World} {base : Heap} {mg mb : Str → Option Value} (G : Grd prog w (K39 w.params) base mg mb)
include G
theorem ok_scaled : FnOk true prog w base 4 194 sp_scaled := by
  have ho : (K39 w.params).lookup 194 = some ⟨_, _, .func (fnOf _ _ _ _ _ _ _ _ _ _ _ _), _⟩ := rfl
  refine fn_go G ho (by kernel_rfl) [.ofString "x", .ofString "e", .ofString "digits"] [.ofString "x", .ofString "e", .ofString "digits", .ofString "shift"] [] [.ofString "nearest_whole", .ofString "abs"] (len_3 fun _ _ _ s X => BindsTo.of_eq rfl) (by kernel_rfl) (by decide +kernel) (by kernel_rfl) [(.ofString "nearest_whole", true, sp_nearest_whole)] (tbl_cons (ok_nearest_whole G) (by decide) (by kernel_rfl) rfl rfl trivial) (fun ds R hsp => ?_)
  clear ho
  obtain ⟨n, d, e, digits, rfl, hd, h0, h1, h2, h3, h4, h5, hR⟩ := hsp
  refine ⟨rfl, fun c O N B hhi hlv hfn hD => ?_⟩
  have hf0 : c.fn (.ofString "nearest_whole") = some (true, sp_nearest_whole) := (hfn _).trans (by kernel_rfl)
  simp only [List.zip_cons_cons, List.zip_nil_left]
  wtm_at "xgo"
  wtm_at "xbr"
  · wtm_at "xgo"
    refine bin_pow (by lia) ?_
    have z := p10 (k := digits - 1 - e) (by lia)
    refine bin_mul (by lia) ?_
    wtm_at "xgo"
    refine call_nearest (Int.mul_nonneg (by lia) (by lia)) ⟨hd, h4⟩ ?_
    wtm_at "xgo"
    rw [sigN, if_pos (by assumption)] at hR
    exact hR
  · wtm_at "xgo"
    refine bin_pow (by lia) ?_
    wtm_at "xgo"
    rw [sigN, if_neg (by assumption)] at hR
    rw [show (e + 1 - digits).toNat = (0 - (digits - 1 - e)).toNat by lia] at h5
    refine call_nearest (by lia) ⟨Int.mul_pos hd (Int.pow_pos (by decide)), h5⟩ ?_
    wtm_at "xgo"
    exact hR
theorem ok_significant : FnOk true prog w base 5 201 sp_significant := by
  have ho : (K39 w.params).lookup 201 = some ⟨_, _, .func (fnOf _ _ _ _ _ _ _ _ _ _ _ _), _⟩ := rfl
  refine fn_go G ho (by kernel_rfl) [.ofString "x", .ofString "digits"] [.ofString "x", .ofString "digits", .ofString "e", .ofString "n"] [] [.ofString "exponent", .ofString "scaled", .ofString "whole_text"] (len_2 fun _ _ s X => BindsTo.of_eq rfl) (by kernel_rfl) (by decide +kernel) (by kernel_rfl) [(.ofString "exponent", true, sp_exponent), (.ofString "scaled", true, sp_scaled), (.ofString "whole_text", true, sp_whole_text)] (tbl_cons (ok_exponent G) (by decide) (by kernel_rfl) rfl rfl (tbl_cons (ok_scaled G) (by decide) (by kernel_rfl) rfl rfl (tbl_cons (ok_whole_text G) (by decide) (by kernel_rfl) rfl rfl trivial))) (fun ds R hsp => ?_)
  clear ho
  rcases hsp with ⟨d, digits, rfl, hd, h0, h1, hR⟩ | ⟨n, d, digits, e, rfl, g, hR⟩
  · refine ⟨rfl, fun c O N B hhi hlv hfn hD => ?_⟩
    have hf0 : c.fn (.ofString "exponent") = some (true, sp_exponent) := (hfn _).trans (by kernel_rfl)
    have hf1 : c.fn (.ofString "scaled") = some (true, sp_scaled) := (hfn _).trans (by kernel_rfl)
    have hf2 : c.fn (.ofString "whole_text") = some (true, sp_whole_text) := (hfn _).trans (by kernel_rfl)
    simp only [List.zip_cons_cons, List.zip_nil_left]
    wtm_at "xallx"
    refine bin_rep ⟨by lia, by lia, by decide +kernel⟩ ?_
    wtm_at "xallx"
    exact hR
  · refine ⟨rfl, fun c O N B hhi hlv hfn hD => ?_⟩
    have hf0 : c.fn (.ofString "exponent") = some (true, sp_exponent) := (hfn _).trans (by kernel_rfl)
    have hf1 : c.fn (.ofString "scaled") = some (true, sp_scaled) := (hfn _).trans (by kernel_rfl)
    have hf2 : c.fn (.ofString "whole_text") = some (true, sp_whole_text) := (hfn _).trans (by kernel_rfl)
    simp only [List.zip_cons_cons, List.zip_nil_left]
    have hn : n ≠ 0 := fun q => by have := g.le; have := g.d0; subst q; simp at *; lia
    wtm_at "xallx"
    refine ⟨n, d, rfl, g.d0, g.le, fun e' he' => ?_⟩
    obtain rfl := g.ex.unique he' g.d0
    wtm_at "xallx"
    refine call_scaled ⟨⟨g.d0, by lia, by have := g.e20; lia, g.g0, g.g1, g.dlt⟩, g.lim1⟩ ?_
    wtm_at "xallx"
    refine bin_pow (by have := g.g0; have := g.g1; lia) ?_
    wtm_at "xgo"
    wtm_at "xbr"
    · wtm_at "xgo"
      refine call_scaled ⟨⟨g.d0, by lia, by have := g.e20; lia, g.g0, g.g1, g.dlt⟩, by have := g.lim; rw [show (e : Int) + 1 + 1 - digits = e + 2 - digits by lia]; exact this⟩ ?_
      wtm_at "xgo"
      have hs : sig n d digits e = (sigN n d digits (e + 1), (e : Int) + 1) := if_pos (by assumption)
      have b := g.big
      rw [hs] at hR b
      wtm_at "xbr" <;> wtm_at "xgo" <;> refine call_whole_text b.1 b.2 ?_ <;> wtm_at "xgo"
      · rw [if_pos (by assumption)] at hR; exact hR
      · rw [if_neg (by assumption)] at hR; exact hR
    · wtm_at "xgo"
      have hs : sig n d digits e = (sigN n d digits e, (e : Int)) := if_neg (by assumption)
      have b := g.big
      rw [hs] at hR b
      wtm_at "xbr" <;> wtm_at "xgo" <;> refine call_whole_text b.1 b.2 ?_ <;> wtm_at "xgo"
      · rw [if_pos (by assumption)] at hR; exact hR
      · rw [if_neg (by assumption)] at hR; exact hR
end
theorem pos_intText {n : Int} : 1 ≤ (intText n).length := by
  unfold intText
  rw [Str.ofString_eq_byList]; unfold Str.ofStringByList
  have : 1 ≤ (toString n).toList.length := by
    rw [show toString n = Int.repr n from rfl, Int.repr_eq_if]
    split
    · rw [Nat.repr_eq_ofList_toDigits, String.toList_ofList]; exact Nat.length_toDigits_pos
    · rw [String.toList_append]; simp
  simpa [Str.length] using this
theorem first_at {x : Str} (h : 1 ≤ x.length) : x.cps[(0 : Int).toNat]? = some (x.cps.getD 0 0) := by
  have : 0 < x.cps.size := h
  simp [Array.getD, this]
theorem call_sig {n d digits : Int} {e : Nat} {R : Res → Prop} (g : Good n d digits e) (h : R (.ret (.tup [.int (if 0 < n then 1 else -1), .str (intText (sig n d digits e).1), .int (sig n d digits e).2]))) : sp_significant [nv n d, .int digits] R := .inr ⟨n, d, digits, e, rfl, g, h⟩
/-- the first figure -/
noncomputable def s0 (x : Str) : Str := ⟨#[x.cps.getD 0 0]⟩
noncomputable def sciText (n d digits : Int) (e : Nat) : Str :=
  let t := intText (sig n d digits e).1
  let r := (if (if 0 < n then (1 : Int) else -1) < 0 then Str.ofString "-" else .ofString "") ++ s0 t
  let r := if 1 < digits then r ++ .ofString "." ++ strSl t (some 1) none else r
  r ++ (if (sig n d digits e).2 < 0 then Str.ofString "e-" else .ofString "e+") ++ Txt.rjustF (intText ((sig n d digits e).2.natAbs)) 2 ((Str.ofString "0").cps.getD 0 0)
noncomputable def sp_scientific_text : Spec := fun ds R => ∃ (n d digits : Int) (e : Nat), ds = [nv n d, .int digits] ∧ Good n d digits e ∧ R (.ret (.str (sciText n d digits e)))
noncomputable def fixText (n d places : Int) : Str :=
  let t := Txt.rjustF (intText (near (n.natAbs * 10 ^ places.toNat) d)) (places + 1) ((Str.ofString "0").cps.getD 0 0)
  let t := if 0 < places then strSl t none (some (t.length - places)) ++ .ofString "." ++ strSl t (some (t.length - places)) none else t
  if n < 0 then .ofString "-" ++ t else t
structure Fixed (n d places : Int) : Prop where
  d0 : 0 < d
  d1 : d < 2 ^ 64
  p0 : 0 ≤ places
  p1 : places ≤ 12
  big : 0 ≤ near (n.natAbs * 10 ^ places.toNat) d ∧ near (n.natAbs * 10 ^ places.toNat) d < 10 ^ 18
noncomputable def sp_fixed_text : Spec := fun ds R => ∃ n d places : Int, ds = [nv n d, .int places] ∧ Fixed n d places ∧ R (.ret (.str (fixText n d places)))
noncomputable def woZeros (b : Str) : Str :=
  let m := Txt.find b (.ofString "e")
  let tail := if 0 ≤ m then strSl b (some m) none else .ofString ""
  let b := if 0 ≤ m then strSl b none (some m) else b
  let b := if Txt.contains b (.ofString ".") = true then Txt.rstripChars (Txt.rstripChars b (.ofString "0")) (.ofString ".") else b
  b ++ tail
noncomputable def sp_without_zeros : Spec := fun ds R => ∃ b : Str, ds = [.str b] ∧ b.length ≤ 1000 ∧ R (.ret (.str (woZeros b)))
theorem cmp_inT {x y : Str} {R : V → Prop} (q : R (.bool (Txt.contains x y))) : cmpR .In (.str y) (.str x) R := .inT q
section
variable {prog : Program} {w : World} {base : Heap} {mg mb : Str → Option Value} (G : Grd prog w (K39 w.params) base mg mb)
include G
set_option maxHeartbeats 4000000 in
theorem ok_scientific_text : FnOk true prog w base 6 208 sp_scientific_text := by
  have ho : (K39 w.params).lookup 208 = some ⟨_, _, .func (fnOf _ _ _ _ _ _ _ _ _ _ _ _), _⟩ := rfl
  refine fn_go G ho (by kernel_rfl) [.ofString "x", .ofString "digits"] [.ofString "x", .ofString "digits", .ofString "side", .ofString "text", .ofString "e", .ofString "row"] [] [.ofString "significant", .ofString "str", .ofString "abs"] (len_2 fun _ _ s X => BindsTo.of_eq rfl) (by kernel_rfl) (by decide +kernel) (by kernel_rfl) [(.ofString "significant", true, sp_significant)] (tbl_cons (ok_significant G) (by decide) (by kernel_rfl) rfl rfl trivial) (fun ds R hsp => ?_)
  clear ho
  obtain ⟨n, d, digits, e, rfl, g, hR⟩ := hsp
  refine ⟨rfl, fun c O N B hhi hlv hfn hD => ?_⟩
  have hf0 : c.fn (.ofString "significant") = some (true, sp_significant) := (hfn _).trans (by kernel_rfl)
  simp only [List.zip_cons_cons, List.zip_nil_left]
  wtm_at "xgo"
  refine call_sig g ?_
  have h1 : (intText (sig n d digits e).1).length ≤ 18 := len_intText g.big.1 g.big.2
  have h2 : 1 ≤ (intText (sig n d digits e).1).length := pos_intText
  have h3 : (strSl (intText (sig n d digits e).1) (some 1) none).length ≤ 18 := Nat.le_trans (len_sl_le _ _ _) h1
  have hE : 0 ≤ (sig n d digits e).2 ∧ (sig n d digits e).2 ≤ 21 := by
    have := g.e20
    unfold sig; split <;> simp only <;> lia
  have h4 : (intText (sig n d digits e).2.natAbs).length ≤ 18 := len_intText (by lia) (by lia)
  have h5 := len_rjust_le (intText (sig n d digits e).2.natAbs) 2 ((Str.ofString "0").cps.getD 0 0)
  have k1 : (Str.ofString "-").length = 1 := by decide +kernel
  have k2 : (Str.ofString "").length = 0 := by decide +kernel
  have k3 : (Str.ofString ".").length = 1 := by decide +kernel
  have k4 : (Str.ofString "e+").length = 2 := by decide +kernel
  have k6 : (Str.ofString "e-").length = 2 := by decide +kernel
  have k5 : (⟨#[(intText (sig n d digits e).1).cps.getD 0 0]⟩ : Str).length = 1 := rfl
  unfold sciText at hR
  wtm_at "xgo"
  wtm_at "xbr" <;> wtm_at "xgo" <;> refine get_s (by lia) (by decide) (first_at h2) ?_ <;> wtm_at "xgo" <;> wtm_at "xbr" <;> wtm_at "xgo" <;> (refine ite_dec (fun _ => by exfalso; lia) (fun _ => ?_)) <;> wtm_at "xgo"
  all_goals (simp only [*, ↓reduceIte] at hR; exact hR)
set_option maxHeartbeats 4000000 in
theorem ok_fixed_text : FnOk true prog w base 4 215 sp_fixed_text := by
  have ho : (K39 w.params).lookup 215 = some ⟨_, _, .func (fnOf _ _ _ _ _ _ _ _ _ _ _ _), _⟩ := rfl
  refine fn_go G ho (by kernel_rfl) [.ofString "x", .ofString "places"] [.ofString "x", .ofString "places", .ofString "n", .ofString "text"] [] [.ofString "nearest_whole", .ofString "abs", .ofString "whole_text", .ofString "len"] (len_2 fun _ _ s X => BindsTo.of_eq rfl) (by kernel_rfl) (by decide +kernel) (by kernel_rfl) [(.ofString "nearest_whole", true, sp_nearest_whole), (.ofString "whole_text", true, sp_whole_text)] (tbl_cons (ok_nearest_whole G) (by decide) (by kernel_rfl) rfl rfl (tbl_cons (ok_whole_text G) (by decide) (by kernel_rfl) rfl rfl trivial)) (fun ds R hsp => ?_)
  clear ho
  obtain ⟨n, d, places, rfl, g, hR⟩ := hsp
  refine ⟨rfl, fun c O N B hhi hlv hfn hD => ?_⟩
  have hf0 : c.fn (.ofString "nearest_whole") = some (true, sp_nearest_whole) := (hfn _).trans (by kernel_rfl)
  have hf1 : c.fn (.ofString "whole_text") = some (true, sp_whole_text) := (hfn _).trans (by kernel_rfl)
  simp only [List.zip_cons_cons, List.zip_nil_left]
  have z := p10 (k := places) (by have := g.p1; lia)
  have g1 := g.p0
  have g2 := g.p1
  wtm_at "xgo"
  refine bin_pow (by lia) ?_
  wtm_at "xgo"
  refine call_nearest (Int.mul_nonneg (by lia) (by lia)) ⟨g.d0, g.d1⟩ ?_
  wtm_at "xgo"
  refine call_whole_text g.big.1 g.big.2 ?_
  have h1 := len_intText g.big.1 g.big.2
  wtm_at "xgo"
  have pz : PadOk (places + 1) = true ∧ (Str.ofString "0").length = 1 := by
    refine ⟨?_, by decide +kernel⟩
    have : places + 1 = 1 ∨ places + 1 = 2 ∨ places + 1 = 3 ∨ places + 1 = 4 ∨ places + 1 = 5 ∨ places + 1 = 6 ∨ places + 1 = 7 ∨ places + 1 = 8 ∨ places + 1 = 9 ∨ places + 1 = 10 ∨ places + 1 = 11 ∨ places + 1 = 12 ∨ places + 1 = 13 := by omega
    rcases this with e | e | e | e | e | e | e | e | e | e | e | e | e <;> rw [e] <;> decide +kernel
  refine m_rjust pz ?_
  have h2 := len_rjust_le (intText (near (n.natAbs * 10 ^ places.toNat) d)) (places + 1) ((Str.ofString "0").cps.getD 0 0)
  have k1 : (Str.ofString "-").length = 1 := by decide +kernel
  have k3 : (Str.ofString ".").length = 1 := by decide +kernel
  unfold fixText at hR
  dsimp only at hR
  generalize hT : Txt.rjustF (intText (near (n.natAbs * 10 ^ places.toNat) d)) (places + 1) ((Str.ofString "0").cps.getD 0 0) = t at h2 hR ⊢
  have h3 : t.length ≤ 40 := by lia
  have h4 := len_sl_le t (some ((t.length : Int) - places)) none
  have h5 := len_sl_le t none (some ((t.length : Int) - places))
  wtm_at "xgo"
  wtm_at "xbr" <;> wtm_at "xgo" <;> wtm_at "xbr" <;> wtm_at "xgo"
  all_goals (simp only [*, ↓reduceIte] at hR; exact hR)
set_option maxHeartbeats 4000000 in
theorem ok_without_zeros : FnOk true prog w base 3 339 sp_without_zeros := by
  have ho : (K39 w.params).lookup 339 = some ⟨_, _, .func (fnOf _ _ _ _ _ _ _ _ _ _ _ _), _⟩ := rfl
  refine fn_go G ho (by kernel_rfl) [.ofString "body"] [.ofString "body", .ofString "mark", .ofString "tail"] [] [] (len_1 fun _ s X => BindsTo.of_eq rfl) (by kernel_rfl) (by decide +kernel) (by kernel_rfl) [] trivial (fun ds R hsp => ?_)
  clear ho
  obtain ⟨b, rfl, hb, hR⟩ := hsp
  refine ⟨rfl, fun c O N B hhi hlv hfn hD => ?_⟩
  simp only [List.zip_cons_cons, List.zip_nil_left]
  have k0 : (Str.ofString "").length = 0 := by decide +kernel
  unfold woZeros at hR
  dsimp only at hR
  wtm_at "xgo"
  have l1 := len_sl_le b (some (Txt.find b (Str.ofString "e"))) none
  have l2 := len_sl_le b none (some (Txt.find b (Str.ofString "e")))
  have l3 := len_rstrip_le b (Str.ofString "0")
  have l4 := len_rstrip_le (Txt.rstripChars b (Str.ofString "0")) (Str.ofString ".")
  have l5 := len_rstrip_le (strSl b none (some (Txt.find b (Str.ofString "e")))) (Str.ofString "0")
  have l6 := len_rstrip_le (Txt.rstripChars (strSl b none (some (Txt.find b (Str.ofString "e")))) (Str.ofString "0")) (Str.ofString ".")
  wtm_at "xbr" <;> wtm_at "xgo" <;> refine cmp_inT ?_ <;> wtm_at "xgo" <;> wtm_at "xbr" <;> wtm_at "xgo"
  all_goals (simp only [*, ↓reduceIte] at hR; exact hR)
end
theorem len_sci {n d digits : Int} {e : Nat} (g : Good n d digits e) : (sciText n d digits e).length ≤ 100 := by
  have h1 : (intText (sig n d digits e).1).length ≤ 18 := len_intText g.big.1 g.big.2
  have h3 : (strSl (intText (sig n d digits e).1) (some 1) none).length ≤ 18 := Nat.le_trans (len_sl_le _ _ _) h1
  have hE : 0 ≤ (sig n d digits e).2 ∧ (sig n d digits e).2 ≤ 21 := by
    have := g.e20
    unfold sig; split <;> simp only <;> lia
  have h4 : (intText (sig n d digits e).2.natAbs).length ≤ 18 := len_intText (by lia) (by lia)
  have h5 := len_rjust_le (intText (sig n d digits e).2.natAbs) 2 ((Str.ofString "0").cps.getD 0 0)
  have k1 : (Str.ofString "-").length = 1 := by decide +kernel
  have k2 : (Str.ofString "").length = 0 := by decide +kernel
  have k3 : (Str.ofString ".").length = 1 := by decide +kernel
  have k4 : (Str.ofString "e+").length = 2 := by decide +kernel
  have k6 : (Str.ofString "e-").length = 2 := by decide +kernel
  have k5 : (s0 (intText (sig n d digits e).1)).length = 1 := rfl
  unfold sciText
  dsimp only
  repeat' split
  all_goals first | (simp only [len_app]; lia) | lia
theorem len_fix {n d places : Int} (g : Fixed n d places) : (fixText n d places).length ≤ 100 := by
  have h1 := len_intText g.big.1 g.big.2
  have g2 := g.p1
  have h2 := len_rjust_le (intText (near (n.natAbs * 10 ^ places.toNat) d)) (places + 1) ((Str.ofString "0").cps.getD 0 0)
  have k1 : (Str.ofString "-").length = 1 := by decide +kernel
  have k3 : (Str.ofString ".").length = 1 := by decide +kernel
  unfold fixText
  dsimp only
  generalize hT : Txt.rjustF (intText (near (n.natAbs * 10 ^ places.toNat) d)) (places + 1) ((Str.ofString "0").cps.getD 0 0) = t at h2 ⊢
  have h4 := len_sl_le t (some ((t.length : Int) - places)) none
  have h5 := len_sl_le t none (some ((t.length : Int) - places))
  repeat' split
  all_goals first | (simp only [len_app]; lia) | lia
noncomputable def genText (n d digits : Int) (e : Nat) : Str :=
  if n = 0 then woZeros (fixText 0 d (digits - 1)) else if (sig n d digits e).2 < digits then woZeros (fixText n d (digits - 1 - (sig n d digits e).2)) else woZeros (sciText n d digits e)
/-- what a number's text asks -/
structure Ask (n d digits : Int) (e : Nat) : Prop where
  d0 : 0 < d
  g0 : 1 ≤ digits
  g1 : digits ≤ 12
  z : n = 0 → Fixed 0 d (digits - 1)
  g : n ≠ 0 → Good n d digits e
  f : n ≠ 0 → (sig n d digits e).2 < digits → Fixed n d (digits - 1 - (sig n d digits e).2)
noncomputable def sp_general_text : Spec := fun ds R => ∃ (n d digits : Int) (e : Nat), ds = [nv n d, .int digits, .bool false] ∧ Ask n d digits e ∧ R (.ret (.str (genText n d digits e)))
noncomputable def sp_break_text : Spec := fun ds R => ∃ (n d digits : Int) (e : Nat), ds = [nv n d, .int digits] ∧ Ask n d digits e ∧ R (.ret (.str (genText n d digits e)))
theorem call_special {n d : Int} {R : Res → Prop} (h0 : 0 < d) (h : R (.ret .none)) : sp_special_text [nv n d] R := ⟨n, d, rfl, h0, h⟩
section
variable {prog : Program} {w : World} {base : Heap} {mg mb : Str → Option Value} (G : Grd prog w (K39 w.params) base mg mb)
include G
set_option maxHeartbeats 4000000 in
theorem ok_general_text : FnOk true prog w base 7 346 sp_general_text := by
  have ho : (K39 w.params).lookup 346 = some ⟨_, _, .func (fnOf _ _ _ _ _ _ _ _ _ _ _ _), _⟩ := rfl
  refine fn_go G ho (by kernel_rfl) [.ofString "x", .ofString "digits", .ofString "keep"] [.ofString "x", .ofString "digits", .ofString "keep", .ofString "count", .ofString "power", .ofString "body"] [] [.ofString "max", .ofString "significant", .ofString "fixed_text", .ofString "scientific_text", .ofString "without_zeros"] (len_3 fun _ _ _ s X => BindsTo.of_eq rfl) (by kernel_rfl) (by decide +kernel) (by kernel_rfl) [(.ofString "significant", true, sp_significant), (.ofString "fixed_text", true, sp_fixed_text), (.ofString "scientific_text", true, sp_scientific_text), (.ofString "without_zeros", true, sp_without_zeros)] (tbl_cons (ok_significant G) (by decide) (by kernel_rfl) rfl rfl (tbl_cons (ok_fixed_text G) (by decide) (by kernel_rfl) rfl rfl (tbl_cons (ok_scientific_text G) (by decide) (by kernel_rfl) rfl rfl (tbl_cons (ok_without_zeros G) (by decide) (by kernel_rfl) rfl rfl trivial)))) (fun ds R hsp => ?_)
  clear ho
  obtain ⟨n, d, digits, e, rfl, g, hR⟩ := hsp
  refine ⟨rfl, fun c O N B hhi hlv hfn hD => ?_⟩
  have hf0 : c.fn (.ofString "significant") = some (true, sp_significant) := (hfn _).trans (by kernel_rfl)
  have hf1 : c.fn (.ofString "fixed_text") = some (true, sp_fixed_text) := (hfn _).trans (by kernel_rfl)
  have hf2 : c.fn (.ofString "scientific_text") = some (true, sp_scientific_text) := (hfn _).trans (by kernel_rfl)
  have hf3 : c.fn (.ofString "without_zeros") = some (true, sp_without_zeros) := (hfn _).trans (by kernel_rfl)
  simp only [List.zip_cons_cons, List.zip_nil_left]
  have g0 := g.g0
  have g1 := g.g1
  wtm_at "xgo"
  rw [show (if 1 > digits then 1 else digits) = digits by split <;> lia]
  unfold genText at hR
  by_cases hn : n = 0
  · subst hn
    rw [if_pos rfl] at hR
    refine .inl ⟨d, digits, rfl, g.d0, g0, g1, ?_⟩
    wtm_at "xgo"
    refine ite_dec (fun _ => ?_) (fun q => by exfalso; lia)
    wtm_at "xgo"
    refine ite_dec (fun _ => ?_) (fun q => by exfalso; lia)
    wtm_at "xgo"
    have F : Fixed 0 d (digits - 1 - 0) := by rw [Int.sub_zero]; exact g.z rfl
    refine ⟨0, d, _, rfl, F, ?_⟩
    wtm_at "xgo"
    refine ⟨_, rfl, Nat.le_trans (len_fix F) (by decide), ?_⟩
    wtm_at "xgo"
    rw [Int.sub_zero]; exact hR
  · rw [if_neg hn] at hR
    have gg := g.g hn
    refine call_sig gg ?_
    have hE : 0 ≤ (sig n d digits e).2 := by unfold sig; split <;> simp only <;> lia
    wtm_at "xgo"
    refine ite_dec (fun _ => ?_) (fun q => by exfalso; lia)
    wtm_at "xgo"
    refine ite_dec (fun q => ?_) (fun q => ?_)
    · rw [if_pos q] at hR
      wtm_at "xgo"
      refine ⟨n, d, _, rfl, g.f hn q, ?_⟩
      wtm_at "xgo"
      refine ⟨_, rfl, Nat.le_trans (len_fix (g.f hn q)) (by decide), ?_⟩
      wtm_at "xgo"
      exact hR
    · rw [if_neg q] at hR
      wtm_at "xgo"
      refine ⟨n, d, _, e, rfl, gg, ?_⟩
      wtm_at "xgo"
      refine ⟨_, rfl, Nat.le_trans (len_sci gg) (by decide), ?_⟩
      wtm_at "xgo"
      exact hR
theorem ok_break_text : FnOk true prog w base 8 377 sp_break_text := by
  have ho : (K39 w.params).lookup 377 = some ⟨_, _, .func (fnOf _ _ _ _ _ _ _ _ _ _ _ _), _⟩ := rfl
  refine fn_go G ho (by kernel_rfl) [.ofString "x", .ofString "digits"] [.ofString "x", .ofString "digits", .ofString "special"] [] [.ofString "special_text", .ofString "general_text"] (len_2 fun _ _ s X => BindsTo.of_eq rfl) (by kernel_rfl) (by decide +kernel) (by kernel_rfl) [(.ofString "special_text", true, sp_special_text), (.ofString "general_text", true, sp_general_text)] (tbl_cons (ok_special_text G) (by decide) (by kernel_rfl) rfl rfl (tbl_cons (ok_general_text G) (by decide) (by kernel_rfl) rfl rfl trivial)) (fun ds R hsp => ?_)
  clear ho
  obtain ⟨n, d, digits, e, rfl, g, hR⟩ := hsp
  refine ⟨rfl, fun c O N B hhi hlv hfn hD => ?_⟩
  have hf0 : c.fn (.ofString "special_text") = some (true, sp_special_text) := (hfn _).trans (by kernel_rfl)
  have hf1 : c.fn (.ofString "general_text") = some (true, sp_general_text) := (hfn _).trans (by kernel_rfl)
  simp only [List.zip_cons_cons, List.zip_nil_left]
  wtm_at "xgo"
  refine call_special g.d0 ?_
  wtm_at "xgo"
  refine ⟨n, d, digits, e, rfl, g, ?_⟩
  wtm_at "xgo"
  exact hR
end
noncomputable abbrev iv (n : Int) : V := nv n 1
noncomputable def icmp (a b : Int) : Int := if a = b then 0 else if a < b then -1 else 1
theorem cmp_int (a b : Int) : cmpNum (some (a, 1)) (some (b, 1)) = .int (icmp a b) := by
  simp [cmpNum, icmp]
theorem call_compare {a b : Int} {R : Res → Prop} (h : R (.ret (.int (icmp a b)))) : sp_compare [iv a, iv b] R := ⟨a, 1, b, 1, rfl, by decide, by decide, by rw [cmp_int]; exact h⟩
noncomputable def sp_length : Spec := fun ds R => ∃ l, ds = [.vec l] ∧ l.length ≤ 1000000 ∧ R (.ret (.int l.length))
noncomputable def sp_is_lacking_sorting : Spec := fun ds R => ∃ n : Int, ds = [.str (.ofString "double"), iv n] ∧ R (.ret (.bool false))
noncomputable def sp_compare_items : Spec := fun ds R => ∃ a b : Int, ds = [.str (.ofString "double"), iv a, iv b] ∧ R (.ret (.int (icmp a b)))
noncomputable def sp_check_sortable : Spec := fun ds R => ∃ l, ds = [.vec l] ∧ R (.ret .none)
noncomputable def sp_compare_places : Spec := fun ds R => ∃ (ns : List Int) (i j : Nat) (a b : Int), ds = [.vec (ns.map iv), .int i, .int j, .bool false, .bool true] ∧ ns.length ≤ 1000 ∧ ns[i]? = some a ∧ ns[j]? = some b ∧ R (.ret (.int (icmp a b)))
noncomputable def sp_compare_keys : Spec := fun ds R => ∃ (ns : List Int) (i j : Nat) (a b : Int), ds = [.lst [.vec (ns.map iv)], .int i, .int j, .lst [.bool false], .bool true] ∧ ns.length ≤ 1000 ∧ ns[i]? = some a ∧ ns[j]? = some b ∧ R (.ret (.int (icmp a b)))
theorem eqv_zero (n : Int) : PyData.eqv (toPy (iv n)) (toPy (.tup [.int 0, .int 0])) = false := by
  simp [toPy, toPys, PyData.eqv, PyData.eqvAll]
theorem flat_pair (a b : Int) : flat (nv a b) := ⟨by simp [plain, plains], by simp [deep, deeps]⟩
theorem cmp_any {a b c d : Int} {R : V → Prop} (h : flat (nv a b)) (h' : flat (nv c d)) (q : R (.bool (PyData.eqv (toPy (nv a b)) (toPy (nv c d))))) : cmpR .Eq (nv a b) (nv c d) R := .eqD ⟨h, h'⟩ q
theorem cmp_notint {a : V} {l : List V} {R : V → Prop} (h : flat a) (h' : flat (.tup l)) (q : R (.bool (!(toPys l).any fun y => PyData.eqv y (toPy a)))) : cmpR .NotIn a (.tup l) R := .notinT ⟨h, h'⟩ q
theorem flat_double : flat (.str (.ofString "double")) := by constructor <;> decide +kernel
theorem flat_kinds : flat (.tup [.str (.ofString "logical"), .str (.ofString "integer"), .str (.ofString "double"), .str (.ofString "character")]) := by constructor <;> decide +kernel
theorem in_kinds : (!(toPys [.str (.ofString "logical"), .str (.ofString "integer"), .str (.ofString "double"), .str (.ofString "character")]).any fun y => PyData.eqv y (toPy (.str (.ofString "double")))) = false := by decide +kernel
section
variable {prog : Program} {w : World} {base : Heap} {mg mb : Str → Option Value} (G : Grd prog w (K39 w.params) base mg mb)
include G
theorem ok_length : FnOk true prog w base 3 265 sp_length := by
  have ho : (K39 w.params).lookup 265 = some ⟨_, _, .func (fnOf _ _ _ _ _ _ _ _ _ _ _ _), _⟩ := rfl
  refine fn_go G ho (by kernel_rfl) [.ofString "v"] [.ofString "v", .ofString "kind"] [] [.ofString "isinstance", .ofString "Vector", .ofString "len"] (len_1 fun _ s X => BindsTo.of_eq rfl) (by kernel_rfl) (by decide +kernel) (by kernel_rfl) [] trivial (fun ds R hsp => ?_)
  clear ho
  obtain ⟨l, rfl, hl, hR⟩ := hsp
  refine ⟨rfl, fun c O N B hhi hlv hfn hD => ?_⟩
  simp only [List.zip_cons_cons, List.zip_nil_left]
  wtm_at "xgo"
  refine ⟨⟨l, rfl⟩, ?_⟩
  wtm_at "xgo"
  exact hR
theorem ok_is_lacking_sorting : FnOk true prog w base 3 272 sp_is_lacking_sorting := by
  have ho : (K39 w.params).lookup 272 = some ⟨_, _, .func (fnOf _ _ _ _ _ _ _ _ _ _ _ _), _⟩ := rfl
  refine fn_go G ho (by kernel_rfl) [.ofString "kind", .ofString "item"] [.ofString "kind", .ofString "item"] [] [] (len_2 fun _ _ s X => BindsTo.of_eq rfl) (by kernel_rfl) (by decide +kernel) (by kernel_rfl) [] trivial (fun ds R hsp => ?_)
  clear ho
  obtain ⟨n, rfl, hR⟩ := hsp
  refine ⟨rfl, fun c O N B hhi hlv hfn hD => ?_⟩
  simp only [List.zip_cons_cons, List.zip_nil_left]
  wtm_at "xgo"
  refine cmp_any (flat_pair _ _) (flat_pair _ _) ?_
  rw [eqv_zero]
  wtm_at "xgo"
  exact hR
theorem ok_compare_items : FnOk true prog w base 5 279 sp_compare_items := by
  have ho : (K39 w.params).lookup 279 = some ⟨_, _, .func (fnOf _ _ _ _ _ _ _ _ _ _ _ _), _⟩ := rfl
  refine fn_go G ho (by kernel_rfl) [.ofString "kind", .ofString "a", .ofString "b"] [.ofString "kind", .ofString "a", .ofString "b"] [] [.ofString "compare"] (len_3 fun _ _ _ s X => BindsTo.of_eq rfl) (by kernel_rfl) (by decide +kernel) (by kernel_rfl) [(.ofString "compare", true, sp_compare)] (tbl_cons (ok_compare G) (by decide) (by kernel_rfl) rfl rfl trivial) (fun ds R hsp => ?_)
  clear ho
  obtain ⟨a, b, rfl, hR⟩ := hsp
  refine ⟨rfl, fun c O N B hhi hlv hfn hD => ?_⟩
  have hf0 : c.fn (.ofString "compare") = some (true, sp_compare) := (hfn _).trans (by kernel_rfl)
  simp only [List.zip_cons_cons, List.zip_nil_left]
  wtm_at "xgo"
  refine call_compare ?_
  wtm_at "xgo"
  exact hR
theorem ok_check_sortable : FnOk true prog w base 3 286 sp_check_sortable := by
  have ho : (K39 w.params).lookup 286 = some ⟨_, _, .func (fnOf _ _ _ _ _ _ _ _ _ _ _ _), _⟩ := rfl
  refine fn_go G ho (by kernel_rfl) [.ofString "v"] [.ofString "v"] [] [.ofString "Refusal"] (len_1 fun _ s X => BindsTo.of_eq rfl) (by kernel_rfl) (by decide +kernel) (by kernel_rfl) [] trivial (fun ds R hsp => ?_)
  clear ho
  obtain ⟨l, rfl, hR⟩ := hsp
  refine ⟨rfl, fun c O N B hhi hlv hfn hD => ?_⟩
  simp only [List.zip_cons_cons, List.zip_nil_left]
  wtm_at "xgo"
  refine cmp_notint flat_double flat_kinds ?_
  rw [in_kinds]
  wtm_at "xgo"
  exact hR
theorem ok_compare_places : FnOk true prog w base 6 293 sp_compare_places := by
  have ho : (K39 w.params).lookup 293 = some ⟨_, _, .func (fnOf _ _ _ _ _ _ _ _ _ _ _ _), _⟩ := rfl
  refine fn_go G ho (by kernel_rfl) [.ofString "v", .ofString "i", .ofString "j", .ofString "decreasing", .ofString "na_last"] [.ofString "v", .ofString "i", .ofString "j", .ofString "decreasing", .ofString "na_last", .ofString "left", .ofString "right", .ofString "left_lacking", .ofString "right_lacking", .ofString "result"] [] [.ofString "is_lacking_sorting", .ofString "compare_items"] (len_5 fun _ _ _ _ _ s X => BindsTo.of_eq rfl) (by kernel_rfl) (by decide +kernel) (by kernel_rfl) [(.ofString "is_lacking_sorting", true, sp_is_lacking_sorting), (.ofString "compare_items", true, sp_compare_items)] (tbl_cons (ok_is_lacking_sorting G) (by decide) (by kernel_rfl) rfl rfl (tbl_cons (ok_compare_items G) (by decide) (by kernel_rfl) rfl rfl trivial)) (fun ds R hsp => ?_)
  clear ho
  obtain ⟨ns, i, j, a, b, rfl, hz, hi, hj, hR⟩ := hsp
  refine ⟨rfl, fun c O N B hhi hlv hfn hD => ?_⟩
  have hf0 : c.fn (.ofString "is_lacking_sorting") = some (true, sp_is_lacking_sorting) := (hfn _).trans (by kernel_rfl)
  have hf1 : c.fn (.ofString "compare_items") = some (true, sp_compare_items) := (hfn _).trans (by kernel_rfl)
  simp only [List.zip_cons_cons, List.zip_nil_left]
  have hi' : (ns.map iv)[(i : Int).toNat]? = some (iv a) := by simp [hi]
  have hj' : (ns.map iv)[(j : Int).toNat]? = some (iv b) := by simp [hj]
  have hz' : (ns.map iv).length ≤ 1000000 := by simp; lia
  wtm_at "xgo"
  refine get_l hz' (by lia) hi' ?_
  wtm_at "xgo"
  refine get_l hz' (by lia) hj' ?_
  wtm_at "xgo"
  refine ⟨a, rfl, ?_⟩
  wtm_at "xgo"
  refine ⟨b, rfl, ?_⟩
  wtm_at "xgo"
  refine ⟨a, b, rfl, ?_⟩
  wtm_at "xgo"
  exact hR
theorem ok_compare_keys : FnOk true prog w base 7 300 sp_compare_keys := by
  have ho : (K39 w.params).lookup 300 = some ⟨_, _, .func (fnOf _ _ _ _ _ _ _ _ _ _ _ _), _⟩ := rfl
  refine fn_go G ho (by kernel_rfl) [.ofString "vs", .ofString "i", .ofString "j", .ofString "decreasing", .ofString "na_last"] [.ofString "vs", .ofString "i", .ofString "j", .ofString "decreasing", .ofString "na_last", .ofString "number", .ofString "result"] [] [.ofString "range", .ofString "len", .ofString "compare_places"] (len_5 fun _ _ _ _ _ s X => BindsTo.of_eq rfl) (by kernel_rfl) (by decide +kernel) (by kernel_rfl) [(.ofString "compare_places", true, sp_compare_places)] (tbl_cons (ok_compare_places G) (by decide) (by kernel_rfl) rfl rfl trivial) (fun ds R hsp => ?_)
  clear ho
  obtain ⟨ns, i, j, a, b, rfl, hz, hi, hj, hR⟩ := hsp
  refine ⟨rfl, fun c O N B hhi hlv hfn hD => ?_⟩
  have hf0 : c.fn (.ofString "compare_places") = some (true, sp_compare_places) := (hfn _).trans (by kernel_rfl)
  simp only [List.zip_cons_cons, List.zip_nil_left]
  refine ss_for O N (by wtm_at "xbnd") rfl ?_
  wtm_at "xgo"
  refine ⟨by simp, fun k σ => σ = _ ∧ (k = 1 → icmp a b = 0), _, by wtm_at "xsub", ⟨rfl, fun e => nomatch e⟩, ?_, ?_⟩
  · intro ch Oh Nh hK hfn' hlv' ii d σ₂ hd
    have Bh : Bui ch.K := hK ▸ B
    rw [← hlv'] at hlv
    rw [← hfn'] at hf0
    rintro ⟨rfl, hc⟩
    obtain ⟨hk, rfl⟩ := rng_get hd
    simp only [List.length_cons, List.length_nil] at hk
    obtain rfl : ii = 0 := by lia
    wtm_at "xgo"
    refine get_l (by simp) (by lia) rfl ?_
    wtm_at "xgo"
    refine get_l (by simp) (by lia) rfl ?_
    wtm_at "xgo"
    refine ⟨ns, i, j, a, b, rfl, hz, hi, hj, ?_⟩
    wtm_at "xall"
    · exact hR
    · exact flQ_next _ (by wtm_at "xsub") ⟨rfl, fun _ => by simp_all⟩
  · rintro σ₂ ⟨rfl, hc⟩
    rw [hc rfl] at hR
    wtm_at "xgo"
    exact hR
end
noncomputable def kle (ns : List Int) (i j : Nat) : Bool := decide (icmp (ns.getD i 0) (ns.getD j 0) ≤ 0)
noncomputable def ix (l : List Nat) : List V := l.map fun n : Nat => V.int n
theorem ix_len (l : List Nat) : (ix l).length = l.length := by simp [ix]
theorem ix_get {l : List Nat} {i : Nat} {n : Nat} (h : l[i]? = some n) : (ix l)[i]? = some (V.int n) := by simp [ix, h]
noncomputable def sp_merge_runs : Spec := fun ds R => ∃ (ns : List Int) (l r : List Nat), ds = [.lst (ix l), .lst (ix r), .lst [.vec (ns.map iv)], .lst [.bool false], .bool true] ∧ ns.length ≤ 1000 ∧ l.length ≤ 1000 ∧ r.length ≤ 1000 ∧ (∀ x ∈ l ++ r, x < ns.length) ∧
  R (.ret (.lst (ix (l.merge r (kle ns)))))
theorem merge_step (le : Nat → Nat → Bool) {l r : List Nat} {i j a b : Nat} (hi : l[i]? = some a) (hj : r[j]? = some b) :
    (l.drop i).merge (r.drop j) le = if le a b = true then a :: (l.drop (i + 1)).merge (r.drop j) le else b :: (l.drop i).merge (r.drop (j + 1)) le := by
  obtain ⟨h1, rfl⟩ := List.getElem?_eq_some_iff.mp hi
  obtain ⟨h2, rfl⟩ := List.getElem?_eq_some_iff.mp hj
  rw [List.drop_eq_getElem_cons h1, List.drop_eq_getElem_cons h2]
  exact List.cons_merge_cons ..
theorem ix_drop (l : List Nat) (i : Nat) : ix (l.drop i) = (ix l).drop i := by simp [ix, List.map_drop]
theorem ix_app (l r : List Nat) : ix (l ++ r) = ix l ++ ix r := by simp [ix]
section
variable {prog : Program} {w : World} {base : Heap} {mg mb : Str → Option Value} (G : Grd prog w (K39 w.params) base mg mb)
include G
theorem ok_merge_runs : FnOk true prog w base 8 307 sp_merge_runs := by
  have ho : (K39 w.params).lookup 307 = some ⟨_, _, .func (fnOf _ _ _ _ _ _ _ _ _ _ _ _), _⟩ := rfl
  refine fn_go G ho (by kernel_rfl) [.ofString "left", .ofString "right", .ofString "vs", .ofString "decreasing", .ofString "na_last"] [.ofString "left", .ofString "right", .ofString "vs", .ofString "decreasing", .ofString "na_last", .ofString "merged", .ofString "i", .ofString "j"] [] [.ofString "len", .ofString "compare_keys"] (len_5 fun _ _ _ _ _ s X => BindsTo.of_eq rfl) (by kernel_rfl) (by decide +kernel) (by kernel_rfl) [(.ofString "compare_keys", true, sp_compare_keys)] (tbl_cons (ok_compare_keys G) (by decide) (by kernel_rfl) rfl rfl trivial) (fun ds R hsp => ?_)
  clear ho
  obtain ⟨ns, l, r, rfl, hz, hl, hr, hlt, hR⟩ := hsp
  refine ⟨rfl, fun c O N B hhi hlv hfn hD => ?_⟩
  have hf0 : c.fn (.ofString "compare_keys") = some (true, sp_compare_keys) := (hfn _).trans (by kernel_rfl)
  simp only [List.zip_cons_cons, List.zip_nil_left]
  wtm_at "xgo"
  refine ss_while (fun n σ => ∃ (i j : Nat) (out : List Nat), σ = ⟨[(.ofString "left", .lst (ix l)), (.ofString "right", .lst (ix r)), (.ofString "vs", .lst [.vec (ns.map iv)]), (.ofString "decreasing", .lst [.bool false]), (.ofString "na_last", .bool true), (.ofString "i", .int i), (.ofString "j", .int j)], some (.ofString "merged", ix out)⟩ ∧
    i ≤ l.length ∧ j ≤ r.length ∧ out.length = i + j ∧ n + i + j = l.length + r.length ∧ out ++ (l.drop i).merge (r.drop j) (kle ns) = l.merge r (kle ns)) (l.length + r.length) _ (by wtm_at "xsub") ⟨0, 0, [], rfl, by lia, by lia, rfl, by lia, by simp⟩ ?_
  rintro n σ ⟨i, j, out, rfl, hi, hj, ho, hn, he⟩
  have e1 := ix_len l
  have e2 := ix_len r
  have e3 := ix_len out
  wtm_at "xall"
  · rename_i hi' hj'
    obtain ⟨a, ha⟩ : ∃ a, l[i]? = some a := ⟨l[i]'(by lia), List.getElem?_eq_getElem _⟩
    obtain ⟨b, hb⟩ : ∃ b, r[j]? = some b := ⟨r[j]'(by lia), List.getElem?_eq_getElem _⟩
    have la : a < ns.length := hlt a (List.mem_append_left _ (List.mem_of_getElem? ha))
    have lb : b < ns.length := hlt b (List.mem_append_right _ (List.mem_of_getElem? hb))
    have ms := merge_step (kle ns) ha hb
    have ek : kle ns a b = decide (icmp ns[a] ns[b] ≤ 0) := by simp [kle, la, lb]
    rw [ek] at ms
    refine get_l (by lia) (by lia) (ix_get ha) ?_
    wtm_at "xgo"
    refine get_l (by lia) (by lia) (ix_get hb) ?_
    wtm_at "xgo"
    refine ⟨ns, a, b, _, _, rfl, hz, List.getElem?_eq_getElem la, List.getElem?_eq_getElem lb, ?_⟩
    wtm_at "xall"
    · rename_i hc
      rw [decide_eq_true hc, if_pos rfl] at ms
      refine get_l (by lia) (by lia) (ix_get ha) ?_
      wtm_at "xall"
      rw [show ix out ++ [V.int a] = ix (out ++ [a]) by simp [ix]]
      refine wlQ_next _ (n - 1) (by wtm_at "xsub") (by lia) ⟨i + 1, j, out ++ [a], rfl, by lia, by lia, by simp; lia, by lia, ?_⟩
      rw [← he, ms, List.append_assoc]; rfl
    · rename_i hc
      rw [decide_eq_false hc, if_neg (by decide)] at ms
      refine get_l (by lia) (by lia) (ix_get hb) ?_
      wtm_at "xall"
      rw [show ix out ++ [V.int b] = ix (out ++ [b]) by simp [ix]]
      refine wlQ_next _ (n - 1) (by wtm_at "xsub") (by lia) ⟨i, j + 1, out ++ [b], rfl, by lia, by lia, by simp; lia, by lia, ?_⟩
      rw [← he, ms, List.append_assoc]; rfl
  all_goals
    have key : out ++ l.drop i ++ r.drop j = l.merge r (kle ns) := by
      rw [← he, List.append_assoc]
      congr 1
      have : l.drop i = [] ∨ r.drop j = [] := by
        simp only [List.drop_eq_nil_iff]; lia
      rcases this with z | z <;> rw [z] <;> simp
    have e4 : ((ix l).drop i).length ≤ 1000 := by rw [List.length_drop]; lia
    have e5 : ((ix r).drop j).length ≤ 1000 := by rw [List.length_drop]; lia
    refine sl_lst (by lia) ?_
    rw [lstSl_from _ (by lia) (by lia), Int.toNat_natCast]
    refine bin_lst (by lia) ?_
    wtm_at "xgo"
    refine sl_lst (by lia) ?_
    rw [lstSl_from _ (by lia) (by lia), Int.toNat_natCast]
    refine bin_lst (by rw [List.length_append]; lia) ?_
    wtm_at "xgo"
    rw [← key, ix_app, ix_app, ix_drop, ix_drop] at hR
    exact hR
end
theorem kle_iff (ns : List Int) (i j : Nat) : kle ns i j = true ↔ ns.getD i 0 ≤ ns.getD j 0 := by
  unfold kle icmp
  rw [decide_eq_true_eq]
  split
  · lia
  · split <;> lia
theorem kle_trans (ns : List Int) (a b d : Nat) (h : kle ns a b = true) (k : kle ns b d = true) : kle ns a d = true := by
  rw [kle_iff] at *; lia
theorem kle_total (ns : List Int) (a b : Nat) : (kle ns a b || kle ns b a) = true := by
  rw [Bool.or_eq_true, kle_iff, kle_iff]; lia
/-- runs, two by two -/
noncomputable def mp (ns : List Int) : List (List Nat) → List (List Nat)
  | a :: b :: t => a.merge b (kle ns) :: mp ns t
  | t => t
theorem mp_len (ns : List Int) : ∀ l, (mp ns l).length = (l.length + 1) / 2
  | [] => rfl
  | [a] => by simp [mp]
  | a :: b :: t => by rw [mp, List.length_cons, mp_len ns t]; simp only [List.length_cons]; lia
theorem mp_perm (ns : List Int) : ∀ l, (mp ns l).flatten.Perm l.flatten
  | [] => .refl _
  | [a] => .refl _
  | a :: b :: t => by
    rw [mp, List.flatten_cons, List.flatten_cons, List.flatten_cons, ← List.append_assoc]
    exact (List.merge_perm_append ..).append (mp_perm ns t)
theorem mp_sorted (ns : List Int) : ∀ l, (∀ x ∈ l, List.Pairwise (fun a b => kle ns a b = true) x) → ∀ x ∈ mp ns l, List.Pairwise (fun a b => kle ns a b = true) x
  | [], h => h
  | [a], h => h
  | a :: b :: t, h => by
    rw [mp]
    intro x hx
    rcases List.mem_cons.mp hx with rfl | hx
    · exact List.pairwise_merge (kle_trans ns) (kle_total ns) _ _ (h _ (by simp)) (h _ (by simp))
    · exact mp_sorted ns t (fun x hx => h x (by simp [hx])) x hx
noncomputable def rv (l : List (List Nat)) : List V := l.map fun x => .lst (ix x)
theorem rv_len (l : List (List Nat)) : (rv l).length = l.length := by simp [rv]
theorem rv_get {l : List (List Nat)} {i : Nat} {n : List Nat} (h : l[i]? = some n) : (rv l)[i]? = some (V.lst (ix n)) := by simp [rv, h]
theorem mp_step {ns : List Int} {l : List (List Nat)} {i : Nat} {a b : List Nat} (ha : l[2 * i]? = some a) (hb : l[2 * i + 1]? = some b) : mp ns (l.drop (2 * i)) = a.merge b (kle ns) :: mp ns (l.drop (2 * (i + 1))) := by
  obtain ⟨h1, rfl⟩ := List.getElem?_eq_some_iff.mp ha
  obtain ⟨h2, rfl⟩ := List.getElem?_eq_some_iff.mp hb
  rw [List.drop_eq_getElem_cons h1, List.drop_eq_getElem_cons h2, mp]
  rfl
noncomputable def sp_merge_sort : Spec := fun ds R => ∃ (ns : List Int) (l : List Nat), ds = [.lst (ix l), .lst [.vec (ns.map iv)], .lst [.bool false], .bool true] ∧ ns.length ≤ 1000 ∧ 0 < l.length ∧ l.length ≤ 1000 ∧ (∀ x ∈ l, x < ns.length) ∧
  ∀ q : List Nat, q.Perm l → q.Pairwise (fun a b => kle ns a b = true) → R (.ret (.lst (ix q)))
theorem runs_le {rr : List (List Nat)} {l : List Nat} (h : rr.flatten.Perm l) {x : List Nat} (hx : x ∈ rr) : x.length ≤ l.length ∧ ∀ y ∈ x, y ∈ l := by
  refine ⟨?_, fun y hy => h.mem_iff.mp (List.mem_flatten_of_mem hx hy)⟩
  rw [← h.length_eq]
  exact (List.sublist_flatten_of_mem hx).length_le
section
variable {prog : Program} {w : World} {base : Heap} {mg mb : Str → Option Value} (G : Grd prog w (K39 w.params) base mg mb)
include G
theorem ok_merge_sort : FnOk true prog w base 9 312 sp_merge_sort := by
  have ho : (K39 w.params).lookup 312 = some ⟨_, _, .func (fnOf _ _ _ _ _ _ _ _ _ _ _ _), _⟩ := rfl
  refine fn_go G ho (by kernel_rfl) [.ofString "places", .ofString "vs", .ofString "decreasing", .ofString "na_last"] [.ofString "places", .ofString "vs", .ofString "decreasing", .ofString "na_last", .ofString "runs", .ofString "longer", .ofString "at"] [] [.ofString "len", .ofString "range", .ofString "merge_runs"] (len_4 fun _ _ _ _ s X => BindsTo.of_eq rfl) (by kernel_rfl) (by decide +kernel) (by kernel_rfl) [(.ofString "merge_runs", true, sp_merge_runs)] (tbl_cons (ok_merge_runs G) (by decide) (by kernel_rfl) rfl rfl trivial) (fun ds R hsp => ?_)
  clear ho
  obtain ⟨ns, l, rfl, hz, hl0, hl, hlt, hR⟩ := hsp
  refine ⟨rfl, fun c O N B hhi hlv hfn hD => ?_⟩
  have hf0 : c.fn (.ofString "merge_runs") = some (true, sp_merge_runs) := (hfn _).trans (by kernel_rfl)
  simp only [List.zip_cons_cons, List.zip_nil_left]
  obtain ⟨D, hD'⟩ := hD
  have el := ix_len l
  refine ss_map O [] (by wtm_at "xcn") rfl (by wtm_at "xsw") (by wtm_at "xloc") ?_
  unfold MapOk
  wtm_at "xgo"
  refine ⟨fun d => .lst [d], ?_, ?_⟩
  · rintro ci Oi ⟨Ca, hh, PP, hci⟩ hK' hfn' hlv' d hd
    have Ni : NF' ci [.ofString "place"] [] [] := by subst hci; subst hD'; exact NF'.inn (by kernel_rfl) (fun _ => rfl)
    have Bi : Bui ci.K := hK' ▸ B
    rw [← hlv'] at hlv
    rw [← hfn'] at hf0
    (try simp only [S.put, setV, ofStr_beq, String.reduceBEq, Bool.false_eq_true, if_false, if_true, ↓reduceIte]); simp only [inS, List.filter_cons, List.filter_nil, List.lookup_cons, List.lookup_nil, ofStr_beq, String.reduceBEq, Option.isSome_some, Option.isSome_none, Bool.false_eq_true, if_false, if_true, ↓reduceIte, setV]
    wtm_at "xgo"
    rfl
  have e0 : (ix l).map (fun d => V.lst [d]) = rv (l.map fun x => [x]) := by simp [ix, rv]
  rw [e0]
  have e1 := rv_len (l.map fun x => [x])
  rw [List.length_map] at e1
  wtm_at "xgo"
  refine ite_beq (fun hc => by exfalso; lia) fun _ => ?_
  refine ss_while (fun n σ => ∃ rr : List (List Nat), σ = ⟨[(.ofString "places", .lst (ix l)), (.ofString "vs", .lst [.vec (ns.map iv)]), (.ofString "decreasing", .lst [.bool false]), (.ofString "na_last", .bool true), (.ofString "runs", .lst (rv rr))], none⟩ ∧
    rr.length = n ∧ 0 < n ∧ n ≤ 1000 ∧ rr.flatten.Perm l ∧ ∀ x ∈ rr, List.Pairwise (fun a b => kle ns a b = true) x) l.length _ (by wtm_at "xsub") ⟨l.map fun x => [x], rfl, by simp, hl0, hl, ?_, ?_⟩ ?_
  · rw [← List.flatMap_def, List.flatMap_singleton']
  · intro x hx
    obtain ⟨y, _, rfl⟩ := List.mem_map.mp hx
    exact List.pairwise_singleton ..
  rintro n σ ⟨rr, rfl, hn, h0, hm, hp, hs⟩
  have e2 := rv_len rr
  wtm_at "xall"
  · refine ⟨fun i σ => ∃ out : List (List Nat), σ = ⟨[(.ofString "places", .lst (ix l)), (.ofString "vs", .lst [.vec (ns.map iv)]), (.ofString "decreasing", .lst [.bool false]), (.ofString "na_last", .bool true), (.ofString "runs", .lst (rv rr))], some (.ofString "longer", rv out)⟩ ∧
      out ++ mp ns (rr.drop (2 * i)) = mp ns rr ∧ out.length = i, _, by wtm_at "xsub", ⟨[], rfl, rfl, rfl⟩, ?_, ?_⟩
    · intro ch Oh Nh hK hfn' hlv' ii d σ₂ hd
      have Bh : Bui ch.K := hK ▸ B
      rw [← hlv'] at hlv
      rw [← hfn'] at hf0
      rintro ⟨out, rfl, ho, hol⟩
      obtain ⟨hi, rfl⟩ := rngf_get hd
      rw [show (2 * (ii : Int)) = ((2 * ii : Nat) : Int) by lia]
      obtain ⟨a, ha⟩ : ∃ a, rr[2 * ii]? = some a := ⟨rr[2 * ii]'(by lia), List.getElem?_eq_getElem _⟩
      obtain ⟨b, hb⟩ : ∃ b, rr[2 * ii + 1]? = some b := ⟨rr[2 * ii + 1]'(by lia), List.getElem?_eq_getElem _⟩
      have ms := mp_step (ns := ns) ha hb
      have ma := runs_le hp (List.mem_of_getElem? ha)
      have mb := runs_le hp (List.mem_of_getElem? hb)
      have e3 := rv_len out
      wtm_at "xgo"
      refine get_l (by lia) (by lia) (rv_get ha) ?_
      wtm_at "xgo"
      refine get_l (by lia) (by lia) (rv_get hb) ?_
      wtm_at "xgo"
      refine ⟨ns, a, b, rfl, hz, by lia, by lia, fun x hx => hlt x ((List.mem_append.mp hx).elim (ma.2 x) (mb.2 x)), ?_⟩
      wtm_at "xgo"
      rw [show rv out ++ [V.lst (ix (a.merge b (kle ns)))] = rv (out ++ [a.merge b (kle ns)]) by simp [rv]]
      refine flQ_next _ (by wtm_at "xsub") ⟨_, rfl, ?_, by simp; lia⟩
      rw [← ho, ms, List.append_assoc]; rfl
    rintro σ₂ ⟨out, rfl, ho, hol⟩
    rw [List.length_map, List.length_range] at ho hol
    have e3 := rv_len out
    wtm_at "xgo"
    have el' := mp_len ns rr
    have done : ∃ rr' : List (List Nat), mp ns rr = rr' ∧ rr'.flatten.Perm l ∧ ∀ x ∈ rr', List.Pairwise (fun a b => kle ns a b = true) x := ⟨_, rfl, (mp_perm ns rr).trans hp, mp_sorted ns rr hs⟩
    obtain ⟨rr', em, dp, ds'⟩ := done
    rw [em] at el' ho
    refine ite_beq (fun hc => ?_) fun hc => ?_
    · obtain ⟨z, hz'⟩ : ∃ z, rr[rr.length - 1]? = some z := ⟨rr[rr.length - 1]'(by lia), List.getElem?_eq_getElem _⟩
      have hdr : rr.drop (2 * ((rv rr).length / 2)) = [z] := by
        obtain ⟨q1, rfl⟩ := List.getElem?_eq_some_iff.mp hz'
        rw [show 2 * ((rv rr).length / 2) = rr.length - 1 by lia, List.drop_eq_getElem_cons q1, List.drop_eq_nil_iff.mpr (by lia)]
      rw [hdr] at ho
      wtm_at "xgo"
      refine get_ln (d := .lst (ix z)) (by lia) (by lia) (by lia) ?_ ?_
      · rw [show (-1 + ((rv rr).length : Int)).toNat = rr.length - 1 by lia]; exact rv_get hz'
      wtm_at "xgo"
      rw [show rv out ++ [V.lst (ix z)] = rv rr' by rw [← ho]; simp [rv, mp]]
      exact wlQ_next _ rr'.length (by wtm_at "xsub") (by lia) ⟨rr', rfl, rfl, by lia, by lia, dp, ds'⟩
    · have hdr : rr.drop (2 * ((rv rr).length / 2)) = [] := List.drop_eq_nil_iff.mpr (by lia)
      rw [hdr, mp, List.append_nil] at ho
      · subst ho
        wtm_at "xgo"
        exact wlQ_next _ out.length (by wtm_at "xsub") (by lia) ⟨out, rfl, rfl, by lia, by lia, dp, ds'⟩
      · intro _ _ _ z; cases z
  · obtain ⟨z, rfl⟩ := List.length_eq_one_iff.mp (show rr.length = 1 by lia)
    refine get_l (by lia) (by lia) (rv_get (n := z) rfl) ?_
    wtm_at "xgo"
    exact hR z (by simpa using hp) (hs z (by simp))
end
noncomputable def sp_each_key : Spec := fun ds R => ds = [.bool false, .int 1] ∧ R (.ret (.lst [.bool false]))
noncomputable def sp_kept_places : Spec := fun ds R => ∃ ns : List Int, ds = [.lst [.vec (ns.map iv)], .bool true] ∧ ns.length ≤ 1000 ∧ R (.ret (.lst (ix (List.range ns.length))))
noncomputable def sp_order_by : Spec := fun ds R => ∃ ns : List Int, ds = [.lst [.vec (ns.map iv)], .bool false, .bool true] ∧ 0 < ns.length ∧ ns.length ≤ 1000 ∧
  ∀ q : List Nat, q.Perm (List.range ns.length) → q.Pairwise (fun a b => kle ns a b = true) → R (.ret (.lst (ix q)))
noncomputable def sp_double : Spec := fun ds R => ∃ l : List V, ds = [.lst l] ∧ l.length ≤ 1000000 ∧ R (.ret (.vec l))
noncomputable def sp_room : Spec := fun ds R => ∃ n : Int, ds = [.int n] ∧ n ≤ 1000000 ∧ R (.ret (.int n))
theorem vec_len {ns : List Int} : (ns.map iv).length = ns.length := List.length_map ..
section
variable {prog : Program} {w : World} {base : Heap} {mg mb : Str → Option Value} (G : Grd prog w (K39 w.params) base mg mb)
include G
theorem ok_double : FnOk true prog w base 3 258 sp_double := by
  have ho : (K39 w.params).lookup 258 = some ⟨_, _, .func (fnOf _ _ _ _ _ _ _ _ _ _ _ _), _⟩ := rfl
  refine fn_go G ho (by kernel_rfl) [.ofString "items"] [.ofString "items"] [] [.ofString "Vector", .ofString "list"] (len_1 fun _ s X => BindsTo.of_eq rfl) (by kernel_rfl) (by decide +kernel) (by kernel_rfl) [] trivial (fun ds R hsp => ?_)
  clear ho
  obtain ⟨l, rfl, hz, hR⟩ := hsp
  refine ⟨rfl, fun c O N B hhi hlv hfn hD => ?_⟩
  simp only [List.zip_cons_cons, List.zip_nil_left]
  wtm_at "xgo"
  refine b_list hz ?_
  wtm_at "xgo"
  exact hR
theorem ok_room : FnOk true prog w base 3 251 sp_room := by
  have ho : (K39 w.params).lookup 251 = some ⟨_, _, .func (fnOf _ _ _ _ _ _ _ _ _ _ _ _), _⟩ := rfl
  refine fn_go G ho (by kernel_rfl) [.ofString "n"] [.ofString "n"] [] [.ofString "MOST_LENGTH", .ofString "Refusal", .ofString "str"] (len_1 fun _ s X => BindsTo.of_eq rfl) (by kernel_rfl) (by decide +kernel) (by kernel_rfl) [] trivial (fun ds R hsp => ?_)
  clear ho
  obtain ⟨n, rfl, hz, hR⟩ := hsp
  refine ⟨rfl, fun c O N B hhi hlv hfn hD => ?_⟩
  simp only [List.zip_cons_cons, List.zip_nil_left]
  obtain ⟨D, hD'⟩ := hD
  have hm : ∃ t, nsIn c.K mainGlobals (.ofString "MOST_LENGTH") = some (some (.int 1000000 t)) := by subst hD'; exact ⟨_, rfl⟩
  obtain ⟨t, hm⟩ := hm
  wtm_at "xgo"
  refine ev_gint O (by decide +kernel) (by wtm_at "xglo") hm ?_
  wtm_at "xgo"
  refine ite_dec (fun h => by exfalso; lia) fun _ => ?_
  wtm_at "xgo"
  exact hR
theorem ok_each_key : FnOk true prog w base 3 317 sp_each_key := by
  have ho : (K39 w.params).lookup 317 = some ⟨_, _, .func (fnOf _ _ _ _ _ _ _ _ _ _ _ _), _⟩ := rfl
  refine fn_go G ho (by kernel_rfl) [.ofString "decreasing", .ofString "count"] [.ofString "count"] [.ofString "decreasing"] [.ofString "isinstance", .ofString "list", .ofString "range"] (len_2 fun _ _ s X => BindsTo.of_eq rfl) (by kernel_rfl) (by decide +kernel) (by kernel_rfl) [] trivial (fun ds R hsp => ?_)
  clear ho
  obtain ⟨rfl, hR⟩ := hsp
  refine ⟨rfl, fun c O N B hhi hlv hfn hD => ?_⟩
  simp only [List.zip_cons_cons, List.zip_nil_left]
  wtm_at "xgo"
  refine ⟨⟨_, rfl⟩, ?_⟩
  wtm_at "xgo"
  exact hR
theorem ok_kept_places : FnOk true prog w base 4 324 sp_kept_places := by
  have ho : (K39 w.params).lookup 324 = some ⟨_, _, .func (fnOf _ _ _ _ _ _ _ _ _ _ _ _), _⟩ := rfl
  refine fn_go G ho (by kernel_rfl) [.ofString "vs", .ofString "na_last"] [.ofString "vs", .ofString "na_last", .ofString "places", .ofString "place", .ofString "keep", .ofString "v"] [] [.ofString "range", .ofString "length", .ofString "is_lacking_sorting"] (len_2 fun _ _ s X => BindsTo.of_eq rfl) (by kernel_rfl) (by decide +kernel) (by kernel_rfl) [(.ofString "length", true, sp_length), (.ofString "is_lacking_sorting", true, sp_is_lacking_sorting)] (tbl_cons (ok_length G) (by decide) (by kernel_rfl) rfl rfl (tbl_cons (ok_is_lacking_sorting G) (by decide) (by kernel_rfl) rfl rfl trivial)) (fun ds R hsp => ?_)
  clear ho
  obtain ⟨ns, rfl, hz, hR⟩ := hsp
  refine ⟨rfl, fun c O N B hhi hlv hfn hD => ?_⟩
  have hf0 : c.fn (.ofString "length") = some (true, sp_length) := (hfn _).trans (by kernel_rfl)
  have hf1 : c.fn (.ofString "is_lacking_sorting") = some (true, sp_is_lacking_sorting) := (hfn _).trans (by kernel_rfl)
  simp only [List.zip_cons_cons, List.zip_nil_left]
  have e1 := vec_len (ns := ns)
  wtm_at "xgo"
  refine get_l (by simp) (by lia) rfl ?_
  wtm_at "xgo"
  refine ⟨_, rfl, by lia, ?_⟩
  wtm_at "xgo"
  refine ⟨by lia, fun i σ => ∃ out : List Nat, σ = ⟨[(.ofString "vs", .lst [.vec (ns.map iv)]), (.ofString "na_last", .bool true)], some (.ofString "places", ix out)⟩ ∧ out = List.range i ∧ i ≤ 1000, _, by wtm_at "xsub", ⟨[], rfl, rfl, by lia⟩, ?_, ?_⟩
  · intro ch Oh Nh hK hfn' hlv' ii d σ₂ hd
    have Bh : Bui ch.K := hK ▸ B
    rw [← hlv'] at hlv
    rw [← hfn'] at hf0
    rw [← hfn'] at hf1
    rintro ⟨out, rfl, rfl, h1⟩
    obtain ⟨hi, rfl⟩ := rng_get hd
    have e2 := ix_len (List.range ii)
    rw [List.length_range] at e2
    wtm_at "xgo"
    rw [show ix (List.range ii) ++ [V.int ii] = ix (List.range (ii + 1)) by rw [List.range_succ, ix_app]; rfl]
    exact flQ_next _ (by wtm_at "xsub") ⟨_, rfl, rfl, by lia⟩
  rintro σ₂ ⟨out, rfl, rfl, h1⟩
  rw [rng_len, Int.toNat_natCast, e1]
  wtm_at "xgo"
  exact hR
theorem ok_order_by : FnOk true prog w base 10 332 sp_order_by := by
  have ho : (K39 w.params).lookup 332 = some ⟨_, _, .func (fnOf _ _ _ _ _ _ _ _ _ _ _ _), _⟩ := rfl
  refine fn_go G ho (by kernel_rfl) [.ofString "vs", .ofString "decreasing", .ofString "na_last"] [.ofString "vs", .ofString "decreasing", .ofString "na_last", .ofString "v", .ofString "flags"] [] [.ofString "len", .ofString "check_sortable", .ofString "length", .ofString "Refusal", .ofString "each_key", .ofString "merge_sort", .ofString "kept_places"] (len_3 fun _ _ _ s X => BindsTo.of_defaults rfl (X 325 _ rfl) rfl rfl rfl) (by kernel_rfl) (by decide +kernel) (by kernel_rfl) [(.ofString "check_sortable", true, sp_check_sortable), (.ofString "length", true, sp_length), (.ofString "each_key", true, sp_each_key), (.ofString "kept_places", true, sp_kept_places), (.ofString "merge_sort", true, sp_merge_sort)] (tbl_cons (ok_check_sortable G) (by decide) (by kernel_rfl) rfl rfl (tbl_cons (ok_length G) (by decide) (by kernel_rfl) rfl rfl (tbl_cons (ok_each_key G) (by decide) (by kernel_rfl) rfl rfl (tbl_cons (ok_kept_places G) (by decide) (by kernel_rfl) rfl rfl (tbl_cons (ok_merge_sort G) (by decide) (by kernel_rfl) rfl rfl trivial))))) (fun ds R hsp => ?_)
  clear ho
  obtain ⟨ns, rfl, h0, hz, hR⟩ := hsp
  refine ⟨rfl, fun c O N B hhi hlv hfn hD => ?_⟩
  have hf0 : c.fn (.ofString "check_sortable") = some (true, sp_check_sortable) := (hfn _).trans (by kernel_rfl)
  have hf1 : c.fn (.ofString "length") = some (true, sp_length) := (hfn _).trans (by kernel_rfl)
  have hf2 : c.fn (.ofString "each_key") = some (true, sp_each_key) := (hfn _).trans (by kernel_rfl)
  have hf3 : c.fn (.ofString "kept_places") = some (true, sp_kept_places) := (hfn _).trans (by kernel_rfl)
  have hf4 : c.fn (.ofString "merge_sort") = some (true, sp_merge_sort) := (hfn _).trans (by kernel_rfl)
  simp only [List.zip_cons_cons, List.zip_nil_left]
  have e1 := vec_len (ns := ns)
  wtm_at "xgo"
  refine ite_beq (fun h => by exfalso; simp at h) fun _ => ?_
  wtm_at "xgo"
  refine ⟨fun i σ => σ = ⟨[(.ofString "vs", .lst [.vec (ns.map iv)]), (.ofString "decreasing", .bool false), (.ofString "na_last", .bool true)], none⟩, _, by wtm_at "xsub", rfl, ?_, ?_⟩
  · intro ch Oh Nh hK hfn' hlv' ii d σ₂ hd
    have Bh : Bui ch.K := hK ▸ B
    rw [← hlv'] at hlv
    rw [← hfn'] at hf0
    rw [← hfn'] at hf1
    rw [← hfn'] at hf2
    rw [← hfn'] at hf3
    rw [← hfn'] at hf4
    rintro rfl
    have hd' : d = .vec (ns.map iv) := by simpa using List.mem_of_getElem? hd
    subst hd'
    wtm_at "xgo"
    refine ⟨_, rfl, ?_⟩
    wtm_at "xgo"
    refine ⟨_, rfl, by lia, ?_⟩
    wtm_at "xgo"
    refine get_l (by simp) (by lia) rfl ?_
    wtm_at "xgo"
    refine ⟨_, rfl, by lia, ?_⟩
    wtm_at "xgo"
    refine ite_bne (fun h => absurd rfl h) fun _ => ?_
    wtm_at "xgo"
    exact flQ_next _ (by wtm_at "xsub") rfl
  rintro σ₂ rfl
  wtm_at "xgo"
  refine ⟨rfl, ?_⟩
  wtm_at "xgo"
  refine ⟨ns, rfl, hz, ?_⟩
  wtm_at "xgo"
  refine ⟨ns, _, rfl, hz, by simpa using h0, by simpa using hz, fun x hx => by simpa using hx, fun q hp hs => ?_⟩
  wtm_at "xgo"
  exact hR q hp hs
end
/-- neighbours alike -/
noncomputable def rep (l : List Str) : Bool := (List.range (l.length - 1)).any fun i => l[i]? == l[i + 1]?
noncomputable def sv (l : List Str) : List V := l.map .str
theorem sv_len (l : List Str) : (sv l).length = l.length := by simp [sv]
theorem sv_get {l : List Str} {i : Nat} {n : Str} (h : l[i]? = some n) : (sv l)[i]? = some (V.str n) := by simp [sv, h]
theorem getE {α : Type} {l : List α} {i : Nat} (h : i < l.length) : ∃ a, l[i]? = some a := ⟨l[i], List.getElem?_eq_getElem h⟩
noncomputable def sp_repeats : Spec := fun ds R => ∃ l : List Str, ds = [.lst (sv l)] ∧ l.length ≤ 1000 ∧ R (.ret (.bool (rep l)))
noncomputable abbrev pv (p : Int × Int) : V := nv p.1 p.2
noncomputable def tx (e : Int × Int → Nat) (ps : List (Int × Int)) (D : Nat) : List Str := ps.map fun p => genText p.1 p.2 D (e p)
noncomputable def AskAll (e : Int × Int → Nat) (ps : List (Int × Int)) : Prop := ∀ p ∈ ps, ∀ D : Nat, 1 ≤ D → D ≤ 12 → Ask p.1 p.2 D (e p)
/-- where the figures end -/
noncomputable def EndAt (e : Int × Int → Nat) (ps : List (Int × Int)) (least D : Nat) : Prop := least ≤ D ∧ D ≤ 12 ∧ (D = 12 ∨ rep (tx e ps D) = false) ∧ ∀ k, least ≤ k → k < D → rep (tx e ps k) = true
noncomputable def sp_break_texts : Spec := fun ds R => ∃ (e : Int × Int → Nat) (ps : List (Int × Int)) (least : Nat), ds = [.lst (ps.map pv), .int least] ∧ ps.length ≤ 1000 ∧ 1 ≤ least ∧ least ≤ 12 ∧ AskAll e ps ∧ ∀ D, EndAt e ps least D → R (.ret (.lst (sv (tx e ps D))))
theorem tx_len {e : Int × Int → Nat} {ps : List (Int × Int)} {D : Nat} : (tx e ps D).length = ps.length := by simp [tx]
section
variable {prog : Program} {w : World} {base : Heap} {mg mb : Str → Option Value} (G : Grd prog w (K39 w.params) base mg mb)
include G
theorem ok_repeats : FnOk true prog w base 3 389 sp_repeats := by
  have ho : (K39 w.params).lookup 389 = some ⟨_, _, .func (fnOf _ _ _ _ _ _ _ _ _ _ _ _), _⟩ := rfl
  refine fn_go G ho (by kernel_rfl) [.ofString "texts"] [.ofString "texts", .ofString "i"] [] [.ofString "range", .ofString "len"] (len_1 fun _ s X => BindsTo.of_eq rfl) (by kernel_rfl) (by decide +kernel) (by kernel_rfl) [] trivial (fun ds R hsp => ?_)
  clear ho
  obtain ⟨l, rfl, hz, hR⟩ := hsp
  refine ⟨rfl, fun c O N B hhi hlv hfn hD => ?_⟩
  simp only [List.zip_cons_cons, List.zip_nil_left]
  have e1 := sv_len l
  wtm_at "xgo"
  refine ⟨by lia, fun i σ => σ = ⟨[(.ofString "texts", .lst (sv l))], none⟩ ∧ ∀ j < i, (l[j]? == l[j + 1]?) = false, _, by wtm_at "xsub", ⟨rfl, fun j h => absurd h (by lia)⟩, ?_, ?_⟩
  · intro ch Oh Nh hK hfn' hlv' ii d σ₂ hd
    have Bh : Bui ch.K := hK ▸ B
    rw [← hlv'] at hlv
    rintro ⟨rfl, hc⟩
    obtain ⟨hi, rfl⟩ := rng_get hd
    obtain ⟨a, ha⟩ := getE (l := l) (i := ii) (by lia)
    obtain ⟨b, hb⟩ := getE (l := l) (i := ii + 1) (by lia)
    wtm_at "xgo"
    refine get_l (by lia) (by lia) (sv_get ha) ?_
    wtm_at "xgo"
    refine get_l (by lia) (by lia) (sv_get hb) ?_
    wtm_at "xgo"
    refine ite_b (fun h => ?_) (fun h => ?_)
    · have hr : rep l = true := List.any_eq_true.mpr ⟨ii, List.mem_range.mpr (by lia), by rw [ha, hb]; simpa using h⟩
      rw [hr] at hR
      wtm_at "xgo"
      exact hR
    · wtm_at "xgo"
      refine flQ_next _ (by wtm_at "xsub") ⟨rfl, fun j hj => ?_⟩
      rcases Nat.lt_succ_iff_lt_or_eq.mp hj with hj | rfl
      · exact hc j hj
      · rw [ha, hb]; simpa using h
  rintro σ₂ ⟨rfl, hc⟩
  have hr : rep l = false := List.any_eq_false.mpr fun i hi => by
    have := hc i (by rw [rng_len]; have := List.mem_range.mp hi; lia)
    simpa using this
  rw [hr] at hR
  wtm_at "xgo"
  exact hR
theorem ok_break_texts : FnOk true prog w base 9 382 sp_break_texts := by
  have ho : (K39 w.params).lookup 382 = some ⟨_, _, .func (fnOf _ _ _ _ _ _ _ _ _ _ _ _), _⟩ := rfl
  refine fn_go G ho (by kernel_rfl) [.ofString "bounds", .ofString "least"] [.ofString "bounds", .ofString "least", .ofString "texts"] [.ofString "digits"] [.ofString "repeats"] (len_2 fun _ _ s X => BindsTo.of_eq rfl) (by kernel_rfl) (by decide +kernel) (by kernel_rfl) [(.ofString "break_text", true, sp_break_text), (.ofString "repeats", true, sp_repeats)] (tbl_cons (ok_break_text G) (by decide) (by kernel_rfl) rfl rfl (tbl_cons (ok_repeats G) (by decide) (by kernel_rfl) rfl rfl trivial)) (fun ds R hsp => ?_)
  clear ho
  obtain ⟨e, ps, least, rfl, hz, h1, h2, hA, hR⟩ := hsp
  refine ⟨rfl, fun c O N B hhi hlv hfn hD => ?_⟩
  have hf0 : c.fn (.ofString "break_text") = some (true, sp_break_text) := (hfn _).trans (by kernel_rfl)
  have hf1 : c.fn (.ofString "repeats") = some (true, sp_repeats) := (hfn _).trans (by kernel_rfl)
  simp only [List.zip_cons_cons, List.zip_nil_left]
  obtain ⟨D, hD'⟩ := hD
  have e0 : (ps.map pv).length = ps.length := List.length_map ..
  have em : ∀ d : Nat, (ps.map pv).map (fun v => match v with | .tup [.int n, .int m] => V.str (genText n m d (e (n, m))) | v => v) = sv (tx e ps d) := fun d => by
    simp only [List.map_map, sv, tx]; rfl
  wtm_at "xgo"
  refine ss_map O [(.ofString "digits", D.L + 1)] (by wtm_at "xcn") rfl (by wtm_at "xsw") (by wtm_at "xloc") ?_
  unfold MapOk
  wtm_at "xgo"
  refine ⟨fun v => match v with | .tup [.int n, .int m] => V.str (genText n m least (e (n, m))) | v => v, ?_, ?_⟩
  · rintro ci Oi ⟨Ca, hh, PP, hci⟩ hK' hfn' hlv' d hd
    have Ni : NF' ci [.ofString "one"] [] [.ofString "break_text"] := by subst hci; subst hD'; exact NF'.inn (by kernel_rfl) (fun _ => rfl)
    have Bi : Bui ci.K := hK' ▸ B
    rw [← hlv'] at hlv
    rw [← hfn'] at hf0
    rw [← hfn'] at hf1
    (try simp only [S.put, setV, ofStr_beq, String.reduceBEq, Bool.false_eq_true, if_false, if_true, ↓reduceIte]); simp only [inS, List.filter_cons, List.filter_nil, List.lookup_cons, List.lookup_nil, ofStr_beq, String.reduceBEq, Option.isSome_some, Option.isSome_none, Bool.false_eq_true, if_false, if_true, ↓reduceIte, setV]
    obtain ⟨p, hp, rfl⟩ := List.mem_map.mp hd
    wtm_at "xgo"
    refine ⟨p.1, p.2, least, e p, rfl, hA p hp least h1 h2, ?_⟩
    wtm_at "xgo"
    rfl
  rw [em]
  refine ss_while (fun n σ => ∃ d : Nat, σ = ⟨[(.ofString "bounds", .lst (ps.map pv)), (.ofString "least", .int least), (.ofString "digits", .int d), (.ofString "texts", .lst (sv (tx e ps d)))], none⟩ ∧ n + d = 12 ∧ least ≤ d ∧ ∀ k, least ≤ k → k < d → rep (tx e ps k) = true)
    (12 - least) _ (by wtm_at "xsub") ⟨least, rfl, by lia, Nat.le_refl _, fun k a b => by lia⟩ ?_
  rintro n σ ⟨d, rfl, hn, hl, hr⟩
  have e3 := @tx_len e ps d
  wtm_at "xgo"
  refine ite_dec (fun hc => ?_) fun hc => ?_
  · wtm_at "xgo"
    refine ⟨_, rfl, by lia, ?_⟩
    wtm_at "xgo"
    refine ite_b (fun hb => ?_) fun hb => ?_
    · wtm_at "xgo"
      refine ss_map O [(.ofString "digits", D.L + 1)] (by wtm_at "xcn") rfl (by wtm_at "xsw") (by wtm_at "xloc") ?_
      unfold MapOk
      wtm_at "xgo"
      refine ⟨fun v => match v with | .tup [.int n, .int m] => V.str (genText n m (d + 1 : Nat) (e (n, m))) | v => v, ?_, ?_⟩
      · rintro ci Oi ⟨Ca, hh, PP, hci⟩ hK' hfn' hlv' d hd
        have Ni : NF' ci [.ofString "one"] [] [.ofString "break_text"] := by subst hci; subst hD'; exact NF'.inn (by kernel_rfl) (fun _ => rfl)
        have Bi : Bui ci.K := hK' ▸ B
        rw [← hlv'] at hlv
        rw [← hfn'] at hf0
        rw [← hfn'] at hf1
        (try simp only [S.put, setV, ofStr_beq, String.reduceBEq, Bool.false_eq_true, if_false, if_true, ↓reduceIte]); simp only [inS, List.filter_cons, List.filter_nil, List.lookup_cons, List.lookup_nil, ofStr_beq, String.reduceBEq, Option.isSome_some, Option.isSome_none, Bool.false_eq_true, if_false, if_true, ↓reduceIte, setV]
        obtain ⟨p, hp, rfl⟩ := List.mem_map.mp hd
        wtm_at "xgo"
        refine ⟨p.1, p.2, (d + 1 : Nat), e p, rfl, hA p hp _ (by lia) (by lia), ?_⟩
        wtm_at "xgo"
        rfl
      rw [em]
      wtm_at "xgo"
      refine wlQ_next _ (n - 1) (by wtm_at "xsub") (by lia) ⟨d + 1, rfl, by lia, by lia, fun k a b => ?_⟩
      rcases Nat.lt_succ_iff_lt_or_eq.mp b with b | rfl
      · exact hr k a b
      · exact hb
    · wtm_at "xgo"
      exact hR d ⟨hl, by lia, .inr hb, hr⟩
  · wtm_at "xgo"
    exact hR d ⟨hl, by lia, .inl (by lia), hr⟩
end
noncomputable def sp_is_lacking_cuts : Spec := fun ds R => ∃ q : Num, ds = [q.v] ∧ R (.ret (.bool q.na))
noncomputable abbrev Pr := Int × Int
noncomputable def isna (p : Pr) : Prop := p.1 = 0 ∧ p.2 = 0
noncomputable def cn (x y : Pr) : Int := match cmpNum (some x) (some y) with | .int k => k | _ => 0
theorem cn_eq {x y : Pr} (hx : ¬ isna x) (hy : ¬ isna y) : cmpNum (some x) (some y) = .int (cn x y) := by
  obtain ⟨a, b⟩ := x
  obtain ⟨p, q⟩ := y
  unfold isna at hx hy
  simp only at hx hy
  unfold cn cmpNum
  simp only [hx, hy, or_self, if_false]
noncomputable def rstep (s : Option (Pr × Pr)) : Num → Option (Pr × Pr)
  | none => s
  | some p => if p.1 = 0 ∧ p.2 = 0 then s else match s with
    | none => some (p, p)
    | some (lo, hi) => some (if cn p lo < 0 then p else lo, if 0 < cn p hi then p else hi)
noncomputable def lov : Option (Pr × Pr) → V | none => .none | some (lo, _) => pv lo
noncomputable def hiv : Option (Pr × Pr) → V | none => .none | some (_, hi) => pv hi
noncomputable def fair (p : Pr) : Prop := p.2.natAbs < 2 ^ 60
noncomputable def Okay (s : Option (Pr × Pr)) : Prop := ∀ lo hi, s = some (lo, hi) → (¬ isna lo ∧ ¬ isna hi) ∧ fair lo ∧ fair hi
theorem Okay.step {s : Option (Pr × Pr)} {q : Num} (h : Okay s) (f : ∀ p, q = some p → fair p) : Okay (rstep s q) := by
  intro lo hi e
  cases q with
  | none => exact h lo hi e
  | some p =>
    have fp := f p rfl
    by_cases np : isna p
    · rw [show rstep s (some p) = s from if_pos (c := _ ∧ _) np] at e; exact h lo hi e
    · cases s with
      | none => rw [show rstep none (some p) = some (p, p) from if_neg (c := _ ∧ _) np] at e; cases e; exact ⟨⟨np, np⟩, fp, fp⟩
      | some t =>
        obtain ⟨l, u⟩ := t
        obtain ⟨⟨a, b⟩, c, d⟩ := h l u rfl
        rw [show rstep (some (l, u)) (some p) = some (if cn p l < 0 then p else l, if 0 < cn p u then p else u) from if_neg (c := _ ∧ _) np] at e
        cases e
        exact ⟨⟨by split <;> assumption, by split <;> assumption⟩, by split <;> assumption, by split <;> assumption⟩
noncomputable def rmsg (lo hi : Pr) : Str := if lo.2 = 0 then (if lo = hi then .ofString "missing value where TRUE/FALSE needed" else .ofString "'from' must be a finite number") else .ofString "'to' must be a finite number"
noncomputable def Rng (xs : List Num) (lo hi : Pr) : Prop := xs.length ≤ 1000 ∧ (∀ q ∈ xs, ∀ p, q = some p → fair p) ∧ xs.foldl rstep none = some (lo, hi) ∧ (lo.2 = 0 ∨ hi.2 = 0)
noncomputable def nvs (xs : List Num) : List V := xs.map Num.v
theorem nvs_len (xs : List Num) : (nvs xs).length = xs.length := List.length_map ..
noncomputable def sp_range_of : Spec := fun ds R => ∃ (xs : List Num) (lo hi : Pr), ds = [.lst (nvs xs)] ∧ Rng xs lo hi ∧ R (.exc (rmsg lo hi))
theorem eqv_nv (a b c d : Int) : PyData.eqv (toPy (nv a b)) (toPy (nv c d)) = (a == c && b == d) := by
  simp [toPy, toPys, PyData.eqv, PyData.eqvAll]
theorem call_cmp {x y : Pr} {R : Res → Prop} (hx : ¬ isna x ∧ fair x) (hy : ¬ isna y ∧ fair y) (h : R (.ret (.int (cn x y)))) : sp_compare [pv x, pv y] R := ⟨_, _, _, _, rfl, hx.2, hy.2, by rw [cn_eq hx.1 hy.1]; exact h⟩
section
variable {prog : Program} {w : World} {base : Heap} {mg mb : Str → Option Value} (G : Grd prog w (K39 w.params) base mg mb)
include G
theorem ok_is_lacking_cuts : FnOk true prog w base 4 353 sp_is_lacking_cuts := by
  have ho : (K39 w.params).lookup 353 = some ⟨_, _, .func (fnOf _ _ _ _ _ _ _ _ _ _ _ _), _⟩ := rfl
  refine fn_go G ho (by kernel_rfl) [.ofString "x"] [.ofString "x"] [] [.ofString "is_nan"] (len_1 fun _ s X => BindsTo.of_eq rfl) (by kernel_rfl) (by decide +kernel) (by kernel_rfl) [(.ofString "is_nan", true, sp_is_nan)] (tbl_cons (ok_is_nan G) (by decide) (by kernel_rfl) rfl rfl trivial) (fun ds R hsp => ?_)
  clear ho
  obtain ⟨q, rfl, hR⟩ := hsp
  refine ⟨rfl, fun c O N B hhi hlv hfn hD => ?_⟩
  have hf0 : c.fn (.ofString "is_nan") = some (true, sp_is_nan) := (hfn _).trans (by kernel_rfl)
  simp only [List.zip_cons_cons, List.zip_nil_left]
  rcases q with _ | ⟨n, d⟩ <;> simp only [Num.v] <;> wtm_at "xgo"
  · exact hR
  · exact hR
theorem ok_range_of : FnOk true prog w base 5 360 sp_range_of := by
  have ho : (K39 w.params).lookup 360 = some ⟨_, _, .func (fnOf _ _ _ _ _ _ _ _ _ _ _ _), _⟩ := rfl
  refine fn_go G ho (by kernel_rfl) [.ofString "xs"] [.ofString "xs", .ofString "least", .ofString "most", .ofString "x"] [] [.ofString "is_lacking_cuts", .ofString "compare", .ofString "Refusal"] (len_1 fun _ s X => BindsTo.of_eq rfl) (by kernel_rfl) (by decide +kernel) (by kernel_rfl) [(.ofString "is_lacking_cuts", true, sp_is_lacking_cuts), (.ofString "compare", true, sp_compare)] (tbl_cons (ok_is_lacking_cuts G) (by decide) (by kernel_rfl) rfl rfl (tbl_cons (ok_compare G) (by decide) (by kernel_rfl) rfl rfl trivial)) (fun ds R hsp => ?_)
  clear ho
  obtain ⟨xs, lo, hi, rfl, ⟨hz, hf, hs, h0⟩, hR⟩ := hsp
  refine ⟨rfl, fun c O N B hhi hlv hfn hD => ?_⟩
  have hf0 : c.fn (.ofString "is_lacking_cuts") = some (true, sp_is_lacking_cuts) := (hfn _).trans (by kernel_rfl)
  have hf1 : c.fn (.ofString "compare") = some (true, sp_compare) := (hfn _).trans (by kernel_rfl)
  simp only [List.zip_cons_cons, List.zip_nil_left]
  have e1 := nvs_len xs
  wtm_at "xgo"
  refine ⟨fun i σ => ∃ s, σ = ⟨[(.ofString "xs", .lst (nvs xs)), (.ofString "least", lov s), (.ofString "most", hiv s)], none⟩ ∧ s = (xs.take i).foldl rstep none ∧ Okay s, _, by wtm_at "xsub", ⟨none, rfl, rfl, fun _ _ e => nomatch e⟩, ?_, ?_⟩
  · intro ch Oh Nh hK hfn' hlv' ii d σ₂ hd
    have Bh : Bui ch.K := hK ▸ B
    rw [← hlv'] at hlv
    rw [← hfn'] at hf0
    rw [← hfn'] at hf1
    rintro ⟨s, rfl, es, ok⟩
    unfold nvs at hd
    rw [List.getElem?_map, Option.map_eq_some_iff] at hd
    obtain ⟨q, hq, rfl⟩ := hd
    have fq : ∀ p, q = some p → fair p := hf q (List.mem_of_getElem? hq)
    have ok' := ok.step (q := q) fq
    have es' : rstep s q = (xs.take (ii + 1)).foldl rstep none := by
      rw [List.take_add_one, hq, List.foldl_append, ← es]; rfl
    wtm_at "xgo"
    refine ⟨q, rfl, ?_⟩
    wtm_at "xgo"
    refine ite_b (fun hb => ?_) fun hb => ?_
    · have er : rstep s q = s := by
        cases q with
        | none => rfl
        | some p => exact if_pos (of_decide_eq_true hb)
      rw [er] at es'
      wtm_at "xgo"
      exact flQ_cont _ (by wtm_at "xsub") ⟨s, rfl, es', ok⟩
    · obtain ⟨a, b, rfl, np⟩ : ∃ a b, q = some (a, b) ∧ ¬ isna (a, b) := by
        rcases q with _ | ⟨a, b⟩
        · cases hb
        · exact ⟨a, b, rfl, of_decide_eq_false (p := _ ∧ _) hb⟩
      have fp := fq _ rfl
      cases s with
      | none =>
        have er : rstep none (some (a, b)) = some ((a, b), (a, b)) := if_neg (c := _ ∧ _) np
        rw [er] at es' ok'
        simp only [lov, hiv, Num.v]
        wtm_at "xgo"
        exact flQ_next _ (by wtm_at "xsub") ⟨_, rfl, es', ok'⟩
      | some t =>
        obtain ⟨⟨l1, l2⟩, ⟨u1, u2⟩⟩ := t
        obtain ⟨⟨nl, nu⟩, fl, fu⟩ := ok _ _ rfl
        have er : rstep (some ((l1, l2), (u1, u2))) (some (a, b)) = some (if cn (a, b) (l1, l2) < 0 then (a, b) else (l1, l2), if 0 < cn (a, b) (u1, u2) then (a, b) else (u1, u2)) := if_neg (c := _ ∧ _) np
        rw [er] at es' ok'
        simp only [lov, hiv, Num.v]
        wtm_at "xgo"
        refine call_cmp (x := (a, b)) (y := (l1, l2)) ⟨np, fp⟩ ⟨nl, fl⟩ ?_
        wtm_at "xgo"
        refine ite_dec (fun h1 => ?_) fun h1 => ?_
        all_goals
          first | rw [if_pos h1] at es' ok' | rw [if_neg h1] at es' ok'
          wtm_at "xgo"
          refine call_cmp (x := (a, b)) (y := (u1, u2)) ⟨np, fp⟩ ⟨nu, fu⟩ ?_
          wtm_at "xgo"
          refine ite_dec (fun h2 => ?_) fun h2 => ?_
          all_goals
            first | rw [if_pos h2] at es' ok' | rw [if_neg h2] at es' ok'
            wtm_at "xgo"
            exact flQ_next _ (by wtm_at "xsub") ⟨_, rfl, es', ok'⟩
  rintro σ₂ ⟨s, rfl, es, ok⟩
  rw [nvs_len, List.take_length, hs] at es
  subst es
  obtain ⟨l1, l2⟩ := lo
  obtain ⟨u1, u2⟩ := hi
  simp only [lov, hiv]
  unfold rmsg at hR
  simp only [Prod.mk.injEq] at hR h0
  wtm_at "xgo"
  refine ite_beq (fun h1 => ?_) fun h1 => ?_
  · rw [if_pos h1] at hR
    wtm_at "xgo"
    refine cmp_any (flat_pair _ _) (flat_pair _ _) ?_
    rw [eqv_nv]
    wtm_at "xgo"
    refine ite_b (fun h2 => ?_) fun h2 => ?_
    · rw [if_pos (by simpa using h2)] at hR
      wtm_at "xgo"
      exact hR
    · rw [if_neg (by simpa using h2)] at hR
      wtm_at "xgo"
      refine ite_beq (fun _ => ?_) fun h3 => absurd h1 h3
      wtm_at "xgo"
      exact hR
  · rw [if_neg h1] at hR
    wtm_at "xgo"
    refine ite_beq (fun h3 => absurd h3 h1) fun _ => ?_
    wtm_at "xgo"
    refine ite_beq (fun _ => ?_) fun h3 => absurd (h0.resolve_left h1) h3
    wtm_at "xgo"
    exact hR
end
noncomputable def msgN : Str := .ofString "invalid number of intervals"
noncomputable def msgB : Str := .ofString "invalid specification of 'breaks'"
noncomputable def sp_equal_breaks : Spec := fun ds R => (∃ x : V, ds = [x, .none] ∧ R (.exc msgN)) ∨ ∃ (xs : List Num) (lo hi : Pr) (n : Int), ds = [.lst (nvs xs), .int n] ∧ 2 ≤ n ∧ n ≤ 1000000 ∧ Rng xs lo hi ∧ R (.exc (rmsg lo hi))
/-- the whole ones of a list of breaks -/
noncomputable def whl (bs : List Num) : List Int := bs.filterMap fun q => if q.na then none else q.map (·.1)
noncomputable def sp_break_values : Spec := fun ds R => (∃ (x : V) (q : Num), ds = [x, .lst [q.v]] ∧ q.fin = false ∧ R (.exc msgN)) ∨
  (∃ (xs : List Num) (lo hi : Pr) (n : Int), ds = [.lst (nvs xs), .lst [nv n 1]] ∧ 2 ≤ n ∧ n ≤ 1000000 ∧ Rng xs lo hi ∧ R (.exc (rmsg lo hi))) ∨
  ∃ (x : V) (bs : List Num), ds = [x, .lst (nvs bs)] ∧ 2 ≤ bs.length ∧ bs.length ≤ 1000 ∧ (∀ q ∈ bs, q.na = true ∨ ∃ n : Int, q = some (n, 1)) ∧ (whl bs).Nodup ∧
    if (whl bs).length < 2 then R (.exc msgB) else ∀ ms : List Int, ms.Perm (whl bs) → ms.Pairwise (· ≤ ·) → R (.ret (.lst (ms.map iv)))
noncomputable def lackV : V → Bool | .none => true | .tup [.int a, .int b] => decide (a = 0 ∧ b = 0) | _ => false
theorem lackV_v (q : Num) : lackV q.v = q.na := by rcases q with _ | ⟨a, b⟩ <;> rfl
theorem whl_filter : ∀ {bs : List Num}, (∀ q ∈ bs, q.na = true ∨ ∃ n : Int, q = some (n, 1)) → (nvs bs).filter (fun v => !lackV v) = (whl bs).map iv
  | [], _ => rfl
  | q :: bs, h => by
    have ih := whl_filter (bs := bs) fun q hq => h q (List.mem_cons_of_mem _ hq)
    rw [show nvs (q :: bs) = q.v :: nvs bs from rfl, List.filter_cons, lackV_v, ih]
    rcases h q List.mem_cons_self with hq | ⟨n, rfl⟩
    · rw [hq, show whl (q :: bs) = whl bs by unfold whl; rw [List.filterMap_cons_none]; rw [if_pos hq]]; rfl
    · rw [show Num.na (some (n, 1)) = false from decide_eq_false (by lia), show whl (some (n, 1) :: bs) = n :: whl bs by
        unfold whl; rw [List.filterMap_cons_some (b := n)]; rw [if_neg]; rfl; show ¬ decide _ = true; simp]; rfl
theorem whl_len (bs : List Num) : (whl bs).length ≤ bs.length := List.length_filterMap_le ..
theorem perm_of {ns : List Int} {q : List Nat} (h : q.Perm (List.range ns.length)) : (q.map fun i => ns.getD i 0).Perm ns := by
  refine (h.map _).trans ?_
  have : (List.range ns.length).map (fun i => ns.getD i 0) = ns := by
    apply List.ext_getElem
    · simp
    · intro i h1 h2
      simp at h1
      simp [h1]
  rw [this]
theorem sorted_of {ns : List Int} {q : List Nat} (h : q.Pairwise (fun a b => kle ns a b = true)) : (q.map fun i => ns.getD i 0).Pairwise (· ≤ ·) := by
  rw [List.pairwise_map]
  exact h.imp fun z => (kle_iff ..).mp z
section
variable {prog : Program} {w : World} {base : Heap} {mg mb : Str → Option Value} (G : Grd prog w (K39 w.params) base mg mb)
include G
theorem ok_equal_breaks : FnOk true prog w base 6 365 sp_equal_breaks := by
  have ho : (K39 w.params).lookup 365 = some ⟨_, _, .func (fnOf _ _ _ _ _ _ _ _ _ _ _ _), _⟩ := rfl
  refine fn_go G ho (by kernel_rfl) [.ofString "xs", .ofString "count"] [.ofString "xs", .ofString "count", .ofString "most", .ofString "width", .ofString "margin", .ofString "bounds"] [.ofString "least", .ofString "step"] [.ofString "Refusal", .ofString "room", .ofString "range_of", .ofString "sub", .ofString "neg", .ofString "from_int", .ofString "div", .ofString "mul", .ofString "range", .ofString "add"] (len_2 fun _ _ s X => BindsTo.of_eq rfl) (by kernel_rfl) (by decide +kernel) (by kernel_rfl) [(.ofString "room", true, sp_room), (.ofString "range_of", true, sp_range_of)] (tbl_cons (ok_room G) (by decide) (by kernel_rfl) rfl rfl (tbl_cons (ok_range_of G) (by decide) (by kernel_rfl) rfl rfl trivial)) (fun ds R hsp => ?_)
  clear ho
  rcases hsp with ⟨x, rfl, hR⟩ | ⟨xs, lo, hi, n, rfl, h2, h6, hg, hR⟩
  · refine ⟨rfl, fun c O N B hhi hlv hfn hD => ?_⟩
    have hf0 : c.fn (.ofString "room") = some (true, sp_room) := (hfn _).trans (by kernel_rfl)
    have hf1 : c.fn (.ofString "range_of") = some (true, sp_range_of) := (hfn _).trans (by kernel_rfl)
    simp only [List.zip_cons_cons, List.zip_nil_left]
    wtm_at "xgo"
    exact hR
  · refine ⟨rfl, fun c O N B hhi hlv hfn hD => ?_⟩
    have hf0 : c.fn (.ofString "room") = some (true, sp_room) := (hfn _).trans (by kernel_rfl)
    have hf1 : c.fn (.ofString "range_of") = some (true, sp_range_of) := (hfn _).trans (by kernel_rfl)
    simp only [List.zip_cons_cons, List.zip_nil_left]
    wtm_at "xgo"
    refine ite_dec (fun h => by exfalso; lia) fun _ => ?_
    wtm_at "xgo"
    refine ⟨n, rfl, h6, ?_⟩
    wtm_at "xgo"
    refine ⟨xs, lo, hi, rfl, hg, ?_⟩
    exact hR
theorem ok_break_values : FnOk true prog w base 11 370 sp_break_values := by
  have ho : (K39 w.params).lookup 370 = some ⟨_, _, .func (fnOf _ _ _ _ _ _ _ _ _ _ _ _), _⟩ := rfl
  refine fn_go G ho (by kernel_rfl) [.ofString "xs", .ofString "breaks"] [.ofString "xs", .ofString "breaks", .ofString "bounds", .ofString "i"] [.ofString "there"] [.ofString "len", .ofString "equal_breaks", .ofString "to_whole", .ofString "Refusal", .ofString "order_by", .ofString "double", .ofString "range", .ofString "compare"] (len_2 fun _ _ s X => BindsTo.of_eq rfl) (by kernel_rfl) (by decide +kernel) (by kernel_rfl) [(.ofString "equal_breaks", true, sp_equal_breaks), (.ofString "to_whole", true, sp_to_whole), (.ofString "is_lacking_cuts", true, sp_is_lacking_cuts), (.ofString "order_by", true, sp_order_by), (.ofString "double", true, sp_double), (.ofString "compare", true, sp_compare)] (tbl_cons (ok_equal_breaks G) (by decide) (by kernel_rfl) rfl rfl (tbl_cons (ok_to_whole G) (by decide) (by kernel_rfl) rfl rfl (tbl_cons (ok_is_lacking_cuts G) (by decide) (by kernel_rfl) rfl rfl (tbl_cons (ok_order_by G) (by decide) (by kernel_rfl) rfl rfl (tbl_cons (ok_double G) (by decide) (by kernel_rfl) rfl rfl (tbl_cons (ok_compare G) (by decide) (by kernel_rfl) rfl rfl trivial)))))) (fun ds R hsp => ?_)
  clear ho
  rcases hsp with ⟨x, q, rfl, hq, hR⟩ | ⟨xs, lo, hi, n, rfl, h2, h6, hg, hR⟩ | ⟨x, bs, rfl, h2, hz, hb, nd, hR⟩
  · refine ⟨rfl, fun c O N B hhi hlv hfn hD => ?_⟩
    have hf0 : c.fn (.ofString "equal_breaks") = some (true, sp_equal_breaks) := (hfn _).trans (by kernel_rfl)
    have hf1 : c.fn (.ofString "to_whole") = some (true, sp_to_whole) := (hfn _).trans (by kernel_rfl)
    have hf2 : c.fn (.ofString "is_lacking_cuts") = some (true, sp_is_lacking_cuts) := (hfn _).trans (by kernel_rfl)
    have hf3 : c.fn (.ofString "order_by") = some (true, sp_order_by) := (hfn _).trans (by kernel_rfl)
    have hf4 : c.fn (.ofString "double") = some (true, sp_double) := (hfn _).trans (by kernel_rfl)
    have hf5 : c.fn (.ofString "compare") = some (true, sp_compare) := (hfn _).trans (by kernel_rfl)
    simp only [List.zip_cons_cons, List.zip_nil_left]
    wtm_at "xgo"
    refine ite_beq (fun _ => ?_) fun h => absurd rfl h
    wtm_at "xgo"
    refine get_l (by simp) (by lia) rfl ?_
    wtm_at "xgo"
    refine .inl ⟨q, rfl, hq, ?_⟩
    wtm_at "xgo"
    exact .inl ⟨x, rfl, hR⟩
  · refine ⟨rfl, fun c O N B hhi hlv hfn hD => ?_⟩
    have hf0 : c.fn (.ofString "equal_breaks") = some (true, sp_equal_breaks) := (hfn _).trans (by kernel_rfl)
    have hf1 : c.fn (.ofString "to_whole") = some (true, sp_to_whole) := (hfn _).trans (by kernel_rfl)
    have hf2 : c.fn (.ofString "is_lacking_cuts") = some (true, sp_is_lacking_cuts) := (hfn _).trans (by kernel_rfl)
    have hf3 : c.fn (.ofString "order_by") = some (true, sp_order_by) := (hfn _).trans (by kernel_rfl)
    have hf4 : c.fn (.ofString "double") = some (true, sp_double) := (hfn _).trans (by kernel_rfl)
    have hf5 : c.fn (.ofString "compare") = some (true, sp_compare) := (hfn _).trans (by kernel_rfl)
    simp only [List.zip_cons_cons, List.zip_nil_left]
    wtm_at "xgo"
    refine ite_beq (fun _ => ?_) fun h => absurd rfl h
    wtm_at "xgo"
    refine get_l (by simp) (by lia) rfl ?_
    wtm_at "xgo"
    refine .inr ⟨n, rfl, by lia, ?_⟩
    wtm_at "xgo"
    exact .inr ⟨xs, lo, hi, n, rfl, h2, h6, hg, hR⟩
  · refine ⟨rfl, fun c O N B hhi hlv hfn hD => ?_⟩
    have hf0 : c.fn (.ofString "equal_breaks") = some (true, sp_equal_breaks) := (hfn _).trans (by kernel_rfl)
    have hf1 : c.fn (.ofString "to_whole") = some (true, sp_to_whole) := (hfn _).trans (by kernel_rfl)
    have hf2 : c.fn (.ofString "is_lacking_cuts") = some (true, sp_is_lacking_cuts) := (hfn _).trans (by kernel_rfl)
    have hf3 : c.fn (.ofString "order_by") = some (true, sp_order_by) := (hfn _).trans (by kernel_rfl)
    have hf4 : c.fn (.ofString "double") = some (true, sp_double) := (hfn _).trans (by kernel_rfl)
    have hf5 : c.fn (.ofString "compare") = some (true, sp_compare) := (hfn _).trans (by kernel_rfl)
    simp only [List.zip_cons_cons, List.zip_nil_left]
    obtain ⟨D, hD'⟩ := hD
    have e1 := nvs_len bs
    have e2 := whl_len bs
    wtm_at "xgo"
    refine ite_beq (fun h => by exfalso; lia) fun _ => ?_
    refine ss_filc O [] (by wtm_at "xcn") rfl (by wtm_at "xsw") (by wtm_at "xbnd") ?_
    unfold FilOk
    wtm_at "xgo"
    refine ⟨fun v => !lackV v, ?_, ?_⟩
    · rintro ci Oi ⟨Ca, hh, PP, hci⟩ hK' hfn' hlv' d hd
      have Ni : NF' ci [.ofString "one"] [] [.ofString "is_lacking_cuts"] := by subst hci; subst hD'; exact NF'.inn (by kernel_rfl) (fun _ => rfl)
      have Bi : Bui ci.K := hK' ▸ B
      rw [← hlv'] at hlv
      rw [← hfn'] at hf0
      rw [← hfn'] at hf1
      rw [← hfn'] at hf2
      rw [← hfn'] at hf3
      rw [← hfn'] at hf4
      rw [← hfn'] at hf5
      (try simp only [S.put, setV, ofStr_beq, String.reduceBEq, Bool.false_eq_true, if_false, if_true, ↓reduceIte]); simp only [inS, List.filter_cons, List.filter_nil, List.lookup_cons, List.lookup_nil, ofStr_beq, String.reduceBEq, Option.isSome_some, Option.isSome_none, Bool.false_eq_true, if_false, if_true, ↓reduceIte, setV]
      obtain ⟨q, hq, rfl⟩ := List.mem_map.mp hd
      wtm_at "xgo"
      refine ⟨q, rfl, ?_⟩
      wtm_at "xgo"
      exact ⟨by rw [lackV_v], fun _ => by wtm_at "xgo"; rfl⟩
    rw [whl_filter hb]
    have e3 : ((whl bs).map iv).length = (whl bs).length := List.length_map ..
    wtm_at "xgo"
    refine ite_dec (fun h => ?_) fun h => ?_
    · rw [if_pos (by lia)] at hR
      wtm_at "xgo"
      exact hR
    rw [if_neg (by lia)] at hR
    refine ss_map O [(.ofString "there", D.L + 1)] (by wtm_at "xcn") rfl (by wtm_at "xsw") (by wtm_at "xloc") ?_
    unfold MapOk
    wtm_at "xgo"
    refine ⟨_, rfl, by lia, ?_⟩
    wtm_at "xgo"
    refine ⟨whl bs, rfl, by lia, by lia, fun q hp hs => ?_⟩
    have e4 : q.length = (whl bs).length := by rw [hp.length_eq, List.length_range]
    have e5 := ix_len q
    wtm_at "xgo"
    refine ⟨fun v => match v with | .int i => iv ((whl bs).getD i.toNat 0) | v => v, ?_, ?_⟩
    · rintro ci Oi ⟨Ca, hh, PP, hci⟩ hK' hfn' hlv' d hd
      have Ni : NF' ci [.ofString "place"] [] [] := by subst hci; subst hD'; exact NF'.inn (by kernel_rfl) (fun _ => rfl)
      have Bi : Bui ci.K := hK' ▸ B
      rw [← hlv'] at hlv
      rw [← hfn'] at hf0
      rw [← hfn'] at hf1
      rw [← hfn'] at hf2
      rw [← hfn'] at hf3
      rw [← hfn'] at hf4
      rw [← hfn'] at hf5
      (try simp only [S.put, setV, ofStr_beq, String.reduceBEq, Bool.false_eq_true, if_false, if_true, ↓reduceIte]); simp only [inS, List.filter_cons, List.filter_nil, List.lookup_cons, List.lookup_nil, ofStr_beq, String.reduceBEq, Option.isSome_some, Option.isSome_none, Bool.false_eq_true, if_false, if_true, ↓reduceIte, setV]
      obtain ⟨j, hj, rfl⟩ := List.mem_map.mp hd
      have hj' := List.mem_range.mp (hp.mem_iff.mp hj)
      wtm_at "xgo"
      refine get_l (d := iv ((whl bs).getD j 0)) (by lia) (by lia) ?_ rfl
      rw [Int.toNat_natCast, List.getElem?_map, List.getElem?_eq_getElem hj', List.getD_eq_getElem?_getD, List.getElem?_eq_getElem hj']
      rfl
    obtain ⟨ms, em⟩ : ∃ ms, ms = q.map fun i => (whl bs).getD i 0 := ⟨_, rfl⟩
    have pm := perm_of hp
    have sm := sorted_of hs
    rw [show (ix q).map (fun v => match v with | .int i => iv ((whl bs).getD i.toNat 0) | v => v) = ms.map iv by rw [em]; simp only [ix, List.map_map]; rfl]
    rw [← em] at pm sm
    have e6 : ms.length = (whl bs).length := pm.length_eq
    have e7 : (ms.map iv).length = ms.length := List.length_map ..
    have nm : ms.Nodup := pm.nodup_iff.mpr nd
    have hR := hR ms pm sm
    clear em pm sm e4 e5 hp hs
    wtm_at "xgo"
    refine ⟨by lia, fun i σ => σ = ⟨[(.ofString "xs", x), (.ofString "breaks", .lst (nvs bs)), (.ofString "there", .lst ((whl bs).map iv)), (.ofString "bounds", .lst (ms.map iv))], none⟩, _, by wtm_at "xsub", rfl, ?_, ?_⟩
    · intro ch Oh Nh hK hfn' hlv' ii d σ₂ hd
      have Bh : Bui ch.K := hK ▸ B
      rw [← hlv'] at hlv
      rw [← hfn'] at hf0
      rw [← hfn'] at hf1
      rw [← hfn'] at hf2
      rw [← hfn'] at hf3
      rw [← hfn'] at hf4
      rw [← hfn'] at hf5
      rintro rfl
      obtain ⟨hi, rfl⟩ := rng_get hd
      obtain ⟨a, ha⟩ := getE (l := ms) (i := ii) (by lia)
      obtain ⟨b, hb'⟩ := getE (l := ms) (i := ii + 1) (by lia)
      have hab : a ≠ b := by
        rintro rfl
        have := (List.getElem?_inj (by lia) nm).mp (ha.trans hb'.symm)
        lia
      have hi0 : icmp a b ≠ 0 := by unfold icmp; rw [if_neg hab]; split <;> decide
      wtm_at "xgo"
      refine get_l (by lia) (by lia) (show (ms.map iv)[ii]? = some (iv a) by rw [List.getElem?_map, ha]; rfl) ?_
      wtm_at "xgo"
      refine get_l (by lia) (by lia) (show (ms.map iv)[ii + 1]? = some (iv b) by rw [List.getElem?_map, hb']; rfl) ?_
      wtm_at "xgo"
      refine call_compare ?_
      wtm_at "xgo"
      refine ite_beq (fun h => absurd h hi0) fun _ => ?_
      wtm_at "xgo"
      exact flQ_next _ (by wtm_at "xsub") rfl
    rintro σ₂ rfl
    wtm_at "xgo"
    exact hR
end
section
theorem len_wo (b : Str) : (woZeros b).length ≤ 2 * b.length := by
  have k0 : (Str.ofString "").length = 0 := by decide +kernel
  unfold woZeros
  dsimp only
  generalize Txt.find b (.ofString "e") = m
  have h1 := len_sl_le b (some m) none
  have h2 := len_sl_le b none (some m)
  rw [len_app]
  have h3 : (if 0 ≤ m then strSl b none (some m) else b).length ≤ b.length := by split <;> lia
  have h4 : (if 0 ≤ m then strSl b (some m) none else Str.ofString "").length ≤ b.length := by split <;> lia
  generalize (if 0 ≤ m then strSl b none (some m) else b) = y at h3 ⊢
  have h5 : (if Txt.contains y (.ofString ".") = true then Txt.rstripChars (Txt.rstripChars y (.ofString "0")) (.ofString ".") else y).length ≤ y.length := by
    split
    · exact Nat.le_trans (len_rstrip_le _ _) (len_rstrip_le _ _)
    · exact Nat.le_refl _
  lia
theorem len_gen {n d digits : Int} {e : Nat} (a : Ask n d digits e) : (genText n d digits e).length ≤ 200 := by
  unfold genText
  split
  · rename_i h; have := len_wo (fixText 0 d (digits - 1)); have := len_fix (a.z h); lia
  · rename_i h
    split
    · rename_i h'; have := len_wo (fixText n d (digits - 1 - (sig n d digits e).2)); have := len_fix (a.f h h'); lia
    · have := len_wo (sciText n d digits e); have := len_sci (a.g h); lia
theorem tx_short {e : Int × Int → Nat} {ps : List (Int × Int)} {D : Nat} (A : AskAll e ps) (h1 : 1 ≤ D) (h2 : D ≤ 12) : ∀ t ∈ tx e ps D, t.length ≤ 200 := by
  intro t ht
  obtain ⟨p, hp, rfl⟩ := List.mem_map.mp ht
  exact len_gen (A p hp D h1 h2)
noncomputable def rawLab (l : List Str) (right : Bool) (i : Nat) : Str := (if right = true then Str.ofString "(" else .ofString "[") ++ l.getD i ⟨#[]⟩ ++ .ofString "," ++ l.getD (i + 1) ⟨#[]⟩ ++ (if right = true then Str.ofString "]" else .ofString ")")
noncomputable def lab (l : List Str) (right low : Bool) (i : Nat) : Str := (if right = true ∧ ¬ (low = true ∧ i = 0) then Str.ofString "(" else .ofString "[") ++ l.getD i ⟨#[]⟩ ++ .ofString "," ++ l.getD (i + 1) ⟨#[]⟩ ++ (if right = true ∨ (low = true ∧ i + 2 = l.length) then Str.ofString "]" else .ofString ")")
noncomputable def labs (l : List Str) (right low : Bool) : List Str := (List.range (l.length - 1)).map (lab l right low)
noncomputable def sp_cut_labels : Spec := fun ds R => ∃ (e : Int × Int → Nat) (ps : List (Int × Int)) (least : Nat) (right low : Bool), ds = [.lst (ps.map pv), .bool right, .bool low, .int least] ∧ 2 ≤ ps.length ∧ ps.length ≤ 1000 ∧ 1 ≤ least ∧ least ≤ 12 ∧ AskAll e ps ∧
  ∀ D, EndAt e ps least D → R (.ret (.lst (if rep (tx e ps D) = true then (List.range (ps.length - 1)).map (fun j : Nat => .str (intText (1 + j))) else sv (labs (tx e ps D) right low))))
theorem set_map {n k : Nat} {f f' : Nat → V} {v : V} (hk : k < n) (hv : v = f' k) (h : ∀ j, j < n → j ≠ k → f j = f' j) : ((List.range n).map f).set k v = (List.range n).map f' := by
  subst hv
  apply List.ext_getElem (by simp)
  intro i h1 h2
  simp only [List.length_set, List.length_map, List.length_range] at h1
  rw [List.getElem_set]
  split
  · rename_i q; subst q; simp
  · rename_i q; simp only [List.getElem_map, List.getElem_range]; exact h i h1 (Ne.symm q)
theorem raw_lab {l : List Str} {right low : Bool} {i : Nat} (h : low = false ∨ (right = true ∧ i ≠ 0) ∨ (right = false ∧ i + 2 ≠ l.length)) : rawLab l right i = lab l right low i := by
  unfold rawLab lab
  rcases h with rfl | ⟨rfl, h⟩ | ⟨rfl, h⟩ <;> simp [*]
theorem fix_first {l : List Str} : .ofString "[" ++ strSl (rawLab l true 0) (some 1) none = lab l true true 0 := by
  have e : strSl (rawLab l true 0) (some 1) none = l.getD 0 ⟨#[]⟩ ++ .ofString "," ++ l.getD 1 ⟨#[]⟩ ++ .ofString "]" := by
    apply cp_ext
    have k : (if true = true then Str.ofString "(" else .ofString "[").length = 1 := by decide +kernel
    have k' : (1 : Int) ≤ (rawLab l true 0).length := by unfold rawLab; rw [len_app, len_app, len_app, len_app, k]; lia
    rw [cp_from (by lia) k']
    unfold rawLab
    simp only [cp_app, if_true, List.append_assoc]
    rw [show cp (Str.ofString "(") = [40] by decide +kernel]
    rfl
  rw [e]
  unfold lab
  apply cp_ext
  simp [cp_app]
theorem fix_last {l : List Str} {i : Nat} (h : i + 2 = l.length) : strSl (rawLab l false i) none (some (-1)) ++ .ofString "]" = lab l false true i := by
  have e : strSl (rawLab l false i) none (some (-1)) = .ofString "[" ++ l.getD i ⟨#[]⟩ ++ .ofString "," ++ l.getD (i + 1) ⟨#[]⟩ := by
    apply cp_ext
    have k : (if false = true then Str.ofString "]" else .ofString ")").length = 1 := by decide +kernel
    rw [cp_but1 (by unfold rawLab; simp only [len_app]; lia)]
    unfold rawLab
    simp only [cp_app, Bool.false_eq_true, if_false]
    rw [show cp (Str.ofString ")") = [41] by decide +kernel]
    rw [List.length_append, List.length_singleton, Nat.add_sub_cancel, List.take_left]
  rw [e]
  unfold lab
  simp [h]
theorem sv_range (n : Nat) (f : Nat → Str) : sv ((List.range n).map f) = (List.range n).map fun i => V.str (f i) := by simp only [sv, List.map_map]; rfl
theorem fin_first {l : List Str} (h : 2 ≤ l.length) : setAt 0 (.str (.ofString "[" ++ strSl (rawLab l true 0) (some 1) none)) (sv ((List.range (l.length - 1)).map (rawLab l true))) = sv (labs l true true) := by
  unfold setAt labs
  rw [fix_first, if_pos (by lia), sv_range, sv_range]
  exact set_map (k := 0) (by lia) rfl fun j _ hj => by rw [raw_lab (.inr (.inl ⟨rfl, hj⟩))]
theorem fin_last {l : List Str} (h : 2 ≤ l.length) : setAt (-1) (.str (strSl (rawLab l false (l.length - 2)) none (some (-1)) ++ .ofString "]")) (sv ((List.range (l.length - 1)).map (rawLab l false))) = sv (labs l false true) := by
  unfold setAt labs
  have e : (-1 + ((sv ((List.range (l.length - 1)).map (rawLab l false))).length : Int)).toNat = l.length - 2 := by rw [sv_len, List.length_map, List.length_range]; lia
  rw [fix_last (by lia), if_neg (by lia), e, sv_range, sv_range]
  exact set_map (k := l.length - 2) (by lia) rfl fun j _ hj => by rw [raw_lab (.inr (.inr ⟨rfl, by lia⟩))]
theorem fin_none {l : List Str} {right : Bool} : sv ((List.range (l.length - 1)).map (rawLab l right)) = sv (labs l right false) := by
  unfold labs
  rw [sv_range, sv_range]
  apply List.map_congr_left
  intro j _
  rw [raw_lab (.inl rfl)]
theorem ev_ifs {c : Ctx} {X : Str → Prop} {σ : S} {Q : VPost} {t : Expr} {a b : Str} {ka kb : _} {pa pb pos : Pos} (h : EB c X t σ fun k σ₁ => Q (.str (if k = true then a else b)) σ₁) : EV c X (.IfExp t (.Constant (.str a) ka pa) (.Constant (.str b) kb pb) pos) σ Q :=
  ev_if fun s m P oa Φ E I p x => h s m P oa Φ E I (fun k σ' h' tk' m' P' I' g q => p k σ' h' tk' m' P' I' g (by
    cases k
    · rw [if_neg (by decide)]; exact ev_str q
    · rw [if_pos rfl]; exact ev_str q)) x
local macro_rules | `(tactic| wtm_at "xev") => `(tactic| (with_reducible apply ev_ifs))
section
variable {prog : Program} {w : World} {base : Heap} {mg mb : Str → Option Value} (G : Grd prog w (K39 w.params) base mg mb)
include G
set_option maxHeartbeats 4000000 in
theorem ok_cut_labels : FnOk true prog w base 10 394 sp_cut_labels := by
  have ho : (K39 w.params).lookup 394 = some ⟨_, _, .func (fnOf _ _ _ _ _ _ _ _ _ _ _ _), _⟩ := rfl
  refine fn_go G ho (by kernel_rfl) [.ofString "bounds", .ofString "right", .ofString "lowest", .ofString "least"] [.ofString "bounds", .ofString "right", .ofString "lowest", .ofString "least", .ofString "texts", .ofString "i", .ofString "opening", .ofString "closing", .ofString "labels"] [] [.ofString "break_texts", .ofString "repeats", .ofString "range", .ofString "len"] (len_4 fun _ _ _ _ s X => BindsTo.of_eq rfl) (by kernel_rfl) (by decide +kernel) (by kernel_rfl) [(.ofString "break_texts", true, sp_break_texts), (.ofString "repeats", true, sp_repeats)] (tbl_cons (ok_break_texts G) (by decide) (by kernel_rfl) rfl rfl (tbl_cons (ok_repeats G) (by decide) (by kernel_rfl) rfl rfl trivial)) (fun ds R hsp => ?_)
  clear ho
  obtain ⟨e, ps, least, right, low, rfl, hn, hz, h1, h2, hA, hR⟩ := hsp
  refine ⟨rfl, fun c O N B hhi hlv hfn hD => ?_⟩
  have hf0 : c.fn (.ofString "break_texts") = some (true, sp_break_texts) := (hfn _).trans (by kernel_rfl)
  have hf1 : c.fn (.ofString "repeats") = some (true, sp_repeats) := (hfn _).trans (by kernel_rfl)
  simp only [List.zip_cons_cons, List.zip_nil_left]
  obtain ⟨D, hD'⟩ := hD
  have e0 : (ps.map pv).length = ps.length := List.length_map ..
  wtm_at "xgo"
  refine ⟨e, ps, least, rfl, hz, h1, h2, hA, fun d hd => ?_⟩
  have hR := hR d hd
  have e1 := @tx_len e ps d
  have hs := tx_short hA (Nat.le_trans h1 hd.1) hd.2.1
  generalize tx e ps d = l at hR e1 hs
  clear hA hd e0
  have e2 := sv_len l
  wtm_at "xgo"
  refine ⟨l, rfl, by lia, ?_⟩
  wtm_at "xgo"
  refine ite_b (fun hr => ?_) fun hr => ?_
  · rw [hr, if_pos rfl] at hR
    wtm_at "xgo"
    refine ev_map O [] ?N ?hs ?_
    case N => wtm_at "xcn"
    case hs => rfl
    unfold MapOk
    wtm_at "xgo"
    refine ⟨by rw [List.length_map, List.length_range]; lia, fun v => match v with | .int i => .str (intText i) | v => v, ?_, ?_⟩
    · rintro ci Oi ⟨Ca, hh, PP, hci⟩ hK' hfn' hlv' d hd
      have Ni : NF' ci [.ofString "i"] [] [.ofString "str"] := by subst hci; subst hD'; exact NF'.inn (by kernel_rfl) (fun _ => rfl)
      have Bi : Bui ci.K := hK' ▸ B
      rw [← hlv'] at hlv
      rw [← hfn'] at hf0
      rw [← hfn'] at hf1
      (try simp only [S.put, setV, ofStr_beq, String.reduceBEq, Bool.false_eq_true, if_false, if_true, ↓reduceIte]); simp only [inS, List.filter_cons, List.filter_nil, List.lookup_cons, List.lookup_nil, ofStr_beq, String.reduceBEq, Option.isSome_some, Option.isSome_none, Bool.false_eq_true, if_false, if_true, ↓reduceIte, setV]
      obtain ⟨j, hj, rfl⟩ := List.mem_map.mp hd
      have hj' := List.mem_range.mp hj
      wtm_at "xgo"
      rfl
    rw [List.map_map, e2, e1]
    wtm_at "xgo"
    exact hR
  · rw [hr, if_neg (by decide)] at hR
    have k : (if right = true then Str.ofString "(" else .ofString "[").length = 1 ∧ (if right = true then Str.ofString "]" else .ofString ")").length = 1 := by cases right <;> decide +kernel
    have kc : (Str.ofString ",").length = 1 := by decide +kernel
    have kb : (Str.ofString "[").length = 1 ∧ (Str.ofString "]").length = 1 := by decide +kernel
    wtm_at "xgo"
    refine ⟨by lia, fun i σ => σ = ⟨[(.ofString "bounds", .lst (ps.map pv)), (.ofString "right", .bool right), (.ofString "lowest", .bool low), (.ofString "least", .int least), (.ofString "texts", .lst (sv l)),
      (.ofString "opening", .str (if right = true then Str.ofString "(" else .ofString "[")), (.ofString "closing", .str (if right = true then Str.ofString "]" else .ofString ")"))], some (.ofString "labels", sv ((List.range i).map (rawLab l right)))⟩ ∧ i ≤ 1000, _, by wtm_at "xsub", ⟨rfl, by lia⟩, ?_, ?_⟩
    · intro ch Oh Nh hK hfn' hlv' ii d σ₂ hd
      have Bh : Bui ch.K := hK ▸ B
      rw [← hlv'] at hlv
      rw [← hfn'] at hf0
      rw [← hfn'] at hf1
      rintro ⟨rfl, hi'⟩
      obtain ⟨hi, rfl⟩ := rng_get hd
      obtain ⟨a, ha⟩ := getE (l := l) (i := ii) (by lia)
      obtain ⟨b, hb⟩ := getE (l := l) (i := ii + 1) (by lia)
      have la := hs a (List.mem_of_getElem? ha)
      have lb := hs b (List.mem_of_getElem? hb)
      have e4 : (sv ((List.range ii).map (rawLab l right))).length = ii := by rw [sv_len, List.length_map, List.length_range]
      have er : rawLab l right ii = (if right = true then Str.ofString "(" else .ofString "[") ++ a ++ .ofString "," ++ b ++ (if right = true then Str.ofString "]" else .ofString ")") := by
        unfold rawLab
        rw [List.getD_eq_getElem?_getD, List.getD_eq_getElem?_getD, ha, hb]; rfl
      obtain ⟨k1, k2⟩ := k
      wtm_at "xgo"
      refine get_l (by lia) (by lia) (sv_get ha) ?_
      wtm_at "xgo"
      refine get_l (by lia) (by lia) (sv_get hb) ?_
      wtm_at "xgo"
      rw [← er, show sv ((List.range ii).map (rawLab l right)) ++ [V.str (rawLab l right ii)] = sv ((List.range (ii + 1)).map (rawLab l right)) by rw [List.range_succ]; simp [sv]]
      exact flQ_next _ (by wtm_at "xsub") ⟨rfl, by lia⟩
    rintro σ₂ ⟨rfl, hi'⟩
    rw [rng_len, show (((sv l).length : Int) - 1).toNat = l.length - 1 by lia]
    have e3 : (sv ((List.range (l.length - 1)).map (rawLab l right))).length = l.length - 1 := by rw [sv_len, List.length_map, List.length_range]
    have lr : ∀ j, j + 1 < l.length → (rawLab l right j).length ≤ 1000 := fun j hj => by
      obtain ⟨a, ha⟩ := getE (l := l) (i := j) (by lia)
      obtain ⟨b, hb⟩ := getE (l := l) (i := j + 1) (by lia)
      have la := hs a (List.mem_of_getElem? ha)
      have lb := hs b (List.mem_of_getElem? hb)
      unfold rawLab
      rw [List.getD_eq_getElem?_getD, List.getD_eq_getElem?_getD, ha, hb]
      simp only [len_app, Option.getD_some]
      lia
    cases low with
    | false =>
      wtm_at "xgo"
      rw [fin_none]
      exact hR
    | true =>
      wtm_at "xgo"
      cases right with
      | true =>
        wtm_at "xgo"
        refine get_l (d := .str (rawLab l true 0)) (by lia) (by lia) ?_ ?_
        · rw [sv_range, List.getElem?_map, List.getElem?_range (by lia)]; rfl
        have lz := lr 0 (by lia)
        wtm_at "xgo"
        have lz2 := len_sl_le (rawLab l true 0) (some 1) none
        wtm_at "xgo"
        refine ⟨⟨_, rfl⟩, ?_⟩
        wtm_at "xgo"
        refine ⟨0, _, rfl, rfl, by lia, by lia, by lia, ?_⟩
        rw [fin_first (by lia)]
        wtm_at "xgo"
        exact hR
      | false =>
        wtm_at "xgo"
        refine get_ln (d := .str (rawLab l false (l.length - 2))) (by lia) (by lia) (by lia) ?_ ?_
        · rw [show (-1 + ((sv ((List.range (l.length - 1)).map (rawLab l false))).length : Int)).toNat = l.length - 2 by lia, sv_range, List.getElem?_map, List.getElem?_range (by lia)]; rfl
        have lz := lr (l.length - 2) (by lia)
        wtm_at "xgo"
        have lz2 := len_sl_le (rawLab l false (l.length - 2)) none (some (-1))
        wtm_at "xgo"
        refine ⟨⟨_, rfl⟩, ?_⟩
        wtm_at "xgo"
        refine ⟨-1, _, rfl, rfl, by lia, by lia, by lia, ?_⟩
        rw [fin_last (by lia)]
        wtm_at "xgo"
        exact hR
end
end
noncomputable def nints (l : List Int) : List V := l.map .int
theorem nints_len (l : List Int) : (nints l).length = l.length := by simp [nints]
theorem nints_get {l : List Int} {i : Nat} {n : Int} (h : l[i]? = some n) : (nints l)[i]? = some (V.int n) := by simp [nints, h]
noncomputable def FlOk (fs : List Int) : Prop := ∀ x ∈ fs, 0 ≤ x ∧ x < 9699691
theorem FlOk.snoc {fs : List Int} {x : Int} (h : FlOk fs) (hx : 0 ≤ x ∧ x < 9699691) : FlOk (fs ++ [x]) := fun y hy => by
  rcases List.mem_append.mp hy with hy | hy
  · exact h y hy
  · rw [List.mem_singleton] at hy; exact hy ▸ hx
noncomputable def sp_law_flakes : Spec := fun ds R => ∃ ns : List Int, ds = [.lst (nints ns)] ∧ ns.length ≤ 63 ∧ ∀ fs : List Int, fs.length = 24 → FlOk fs → R (.ret (.lst (nints fs)))
/-- without the noughts at the end -/
noncomputable def Strip (t f : Str) : Prop := 1 ≤ f.length ∧ (∃ k, cp t = cp f ++ List.replicate k 48) ∧ (f.length = 1 ∨ ∀ d, (cp f).getLast? = some d → d ≠ 48)
noncomputable def side (n : Int) : Str := if n < 0 then .ofString "-" else .ofString ""
noncomputable def nfig (n : Int) : Nat := (intText n.natAbs).length
noncomputable def lowOf (n : Int) (digits : Nat) : Int := near n.natAbs (10 ^ (nfig n - digits))
noncomputable def expOf (n : Int) (digits : Nat) : Int := if (digits : Int) < (intText (lowOf n digits)).length then nfig n - 1 + 1 else nfig n - 1
noncomputable def longText (n : Int) (digits : Nat) (f : Str) : Str := side n ++ s0 f ++ (if 1 < (f.length : Int) then .ofString "." ++ strSl f (some 1) none else .ofString "") ++ .ofString "e+" ++ strSl (intText (100 + expOf n digits)) (some 1) none
noncomputable def sp_law_written : Spec := fun ds R => ∃ (n : Int) (digits : Nat), ds = [.int n, .int digits] ∧ n.natAbs < 10 ^ 7 ∧ 1 ≤ digits ∧ digits ≤ 12 ∧
  if nfig n ≤ digits then R (.ret (.str (side n ++ intText n.natAbs))) else ∀ f, Strip (intText (lowOf n digits)) f → R (.ret (.str (longText n digits f)))
noncomputable def sp_law_asked : Spec := fun ds R => sp_break_values ds fun r => match r with | .ret v => R (.ret v) | .exc m => R (.ret (.str m))
section
variable {prog : Program} {w : World} {base : Heap} {mg mb : Str → Option Value} (G : Grd prog w (K39 w.params) base mg mb)
include G
theorem ok_law_flakes : FnOk true prog w base 3 401 sp_law_flakes := by
  have ho : (K39 w.params).lookup 401 = some ⟨_, _, .func (fnOf _ _ _ _ _ _ _ _ _ _ _ _), _⟩ := rfl
  refine fn_go G ho (by kernel_rfl) [.ofString "script"] [.ofString "script", .ofString "flakes", .ofString "cell", .ofString "wind"] [] [.ofString "abs", .ofString "int", .ofString "len"] (len_1 fun _ s X => BindsTo.of_eq rfl) (by kernel_rfl) (by decide +kernel) (by kernel_rfl) [] trivial (fun ds R hsp => ?_)
  clear ho
  obtain ⟨ns, rfl, hz, hR⟩ := hsp
  refine ⟨rfl, fun c O N B hhi hlv hfn hD => ?_⟩
  simp only [List.zip_cons_cons, List.zip_nil_left]
  have e1 := nints_len ns
  wtm_at "xgo"
  refine sl_lst (by lia) ?_
  rw [lstSl_to _ (by lia)]
  wtm_at "xgo"
  have e2 : (nints ns).take (24 : Int).toNat = nints (ns.take 24) := by simp [nints, List.map_take]
  rw [e2]
  refine ⟨fun i σ => ∃ fs : List Int, σ = ⟨[(.ofString "script", .lst (nints ns))], some (.ofString "flakes", nints fs)⟩ ∧ fs.length = i ∧ FlOk fs ∧ i ≤ 24, _, by wtm_at "xsub", ⟨[], rfl, rfl, (fun _ h => nomatch h), by lia⟩, ?_, ?_⟩
  · intro ch Oh Nh hK hfn' hlv' ii d σ₂ hd
    have Bh : Bui ch.K := hK ▸ B
    rw [← hlv'] at hlv
    rintro ⟨fs, rfl, hl, hf, h24⟩
    obtain ⟨x, hx, rfl⟩ := List.mem_map.mp (List.mem_of_getElem? hd)
    have e3 := nints_len fs
    have hi : ii < 24 := by
      have := (List.getElem?_eq_some_iff.mp hd).1
      rw [nints_len, List.length_take] at this
      lia
    wtm_at "xgo"
    rw [show nints fs ++ [V.int ((x.natAbs : Int) % 9699690)] = nints (fs ++ [(x.natAbs : Int) % 9699690]) by simp [nints]]
    exact flQ_next _ (by wtm_at "xsub") ⟨_, rfl, by simp; lia, hf.snoc (by lia), by lia⟩
  rintro σ₂ ⟨fs, rfl, hl, hf, h24⟩
  have e3 := nints_len fs
  wtm_at "xgo"
  refine ss_while (fun n σ => ∃ (fs : List Int) (wind : Int), σ = ⟨[(.ofString "script", .lst (nints ns)), (.ofString "wind", .int wind)], some (.ofString "flakes", nints fs)⟩ ∧ fs.length + n = 24 ∧ FlOk fs ∧ 0 ≤ wind ∧ wind < 9699691) (24 - fs.length) _ (by wtm_at "xsub") ⟨fs, _, rfl, by lia, hf, by lia, by lia⟩ ?_
  rintro n σ ⟨fs', wind, rfl, hl', hf', hw⟩
  have e4 := nints_len fs'
  wtm_at "xgo"
  refine ite_dec (fun hc => ?_) fun hc => ?_
  · wtm_at "xgo"
    rw [show ∀ x, nints fs' ++ [V.int x] = nints (fs' ++ [x]) by intro x; simp [nints]]
    exact wlQ_next _ (n - 1) (by wtm_at "xsub") (by lia) ⟨_, _, rfl, by simp; lia, hf'.snoc (by lia), by lia, by lia⟩
  · wtm_at "xgo"
    exact hR fs' (by lia) hf'
end
section
variable {c : Ctx} {X : Str → Prop} {σ : S} {pos : Pos} {rest : List Stmt}
/-- two ways meet -/
noncomputable def midQ (M : S → Prop) (Q : SPost) : SPost := fun f σ₂ => match f with | .next => ∃ σ', Sub σ' σ₂ ∧ M σ' | f => Q f σ₂
theorem midQ_next {M : S → Prop} {Q : SPost} (σ' : S) (s : Sub σ' σ) (h : M σ') : midQ M Q .next σ := ⟨σ', s, h⟩
theorem midQ_ret {M : S → Prop} {Q : SPost} {v : V} (h : Q (.ret v) σ) : midQ M Q (.ret v) σ := h
theorem ss_ifm {Q : SPost} {t : Expr} {b o : List Stmt} (M : S → Prop) (h : EB c X t σ fun k σ₁ => if k = true then SS c X b σ₁ (midQ M Q) else SS c X o σ₁ (midQ M Q)) (k : ∀ σ, M σ → SS c X rest σ Q) : SS c X (.If t b o pos :: rest) σ Q := by
  refine ss_one (fun s m P oa Φ E I p x => sx_if h s m P oa Φ E I (fun f f' σ' h' tk' m' P' oa' I' g r q => p f f' σ' h' tk' m' P' oa' I' g r ?_) x)
  cases r with
  | next => obtain ⟨σ'', s, j⟩ := q; exact ss_weak s.two (k σ'' j)
  | cont => exact q
  | brk => exact q
  | ret r => exact q
theorem ss_freeze {Q : SPost} {x : Str} {ds : List V} {vars : List (Str × V)} (h : SS c X rest ⟨setV x (.lst ds) vars, none⟩ Q) : SS c X rest ⟨vars, some (x, ds)⟩ Q := fun s m P oa Φ E I p xx => by
  obtain ⟨P', gr, I', _⟩ := I.freeze
  exact h s m P' oa Φ E I' (fun f f' σ' h' tk' m' P'' oa' I'' g r q => p f f' σ' h' tk' m' P'' oa' I'' (gr.trans g) r q) xx
end
theorem nfig_bounds {n : Int} (h : n.natAbs < 10 ^ 7) : 1 ≤ nfig n ∧ nfig n ≤ 7 := by
  refine ⟨pos_intText, ?_⟩
  unfold nfig intText
  rw [show toString (n.natAbs : Int) = String.ofList (Nat.toDigits 10 n.natAbs) from Nat.repr_eq_ofList_toDigits]
  have e : (Str.ofString (String.ofList (Nat.toDigits 10 n.natAbs))).length = (Nat.toDigits 10 n.natAbs).length := by
    rw [Str.ofString_eq_byList]; unfold Str.ofStringByList; simp [Str.length, String.toList_ofList]
  rw [e, Nat.length_toDigits_le_iff (by decide) (by decide)]
  exact h
theorem lowOf_bounds {n : Int} {digits : Nat} (h : n.natAbs < 10 ^ 7) : 0 ≤ lowOf n digits ∧ lowOf n digits ≤ 10 ^ 7 := by
  unfold lowOf near
  generalize hs : (10 : Int) ^ (nfig n - digits) = s
  have s0 : 0 < s := by rw [← hs]; exact Int.pow_pos (by decide)
  have q0 : 0 ≤ (n.natAbs : Int) / s := Int.ediv_nonneg (by lia) (by lia)
  have q1 : (n.natAbs : Int) / s ≤ n.natAbs := Int.ediv_le_self _ (by lia)
  split <;> lia
section
variable {prog : Program} {w : World} {base : Heap} {mg mb : Str → Option Value} (G : Grd prog w (K39 w.params) base mg mb)
include G
set_option maxHeartbeats 4000000 in
theorem ok_law_written : FnOk true prog w base 3 408 sp_law_written := by
  have ho : (K39 w.params).lookup 408 = some ⟨_, _, .func (fnOf _ _ _ _ _ _ _ _ _ _ _ _), _⟩ := rfl
  refine fn_go G ho (by kernel_rfl) [.ofString "whole_now", .ofString "digits"] [.ofString "whole_now", .ofString "digits", .ofString "side", .ofString "figures", .ofString "expo_now", .ofString "step", .ofString "low", .ofString "rest", .ofString "tail"] [] [.ofString "str", .ofString "abs", .ofString "len"] (len_2 fun _ _ s X => BindsTo.of_eq rfl) (by kernel_rfl) (by decide +kernel) (by kernel_rfl) [] trivial (fun ds R hsp => ?_)
  clear ho
  obtain ⟨n, digits, rfl, hn, h1, h2, hR⟩ := hsp
  refine ⟨rfl, fun c O N B hhi hlv hfn hD => ?_⟩
  simp only [List.zip_cons_cons, List.zip_nil_left]
  have k0 : (Str.ofString "").length = 0 := by decide +kernel
  have k1 : (Str.ofString "-").length = 1 := by decide +kernel
  have k3 : (Str.ofString ".").length = 1 := by decide +kernel
  have k4 : (Str.ofString "e+").length = 2 := by decide +kernel
  have hb := nfig_bounds hn
  have hlb := @lowOf_bounds n digits hn
  have hf : (intText n.natAbs).length ≤ 18 := by unfold nfig at hb; lia
  refine ss_assign O rfl (by wtm_at "xbnd") ?_
  refine ev_ifs ?_
  wtm_at "xgo"
  rw [show (if decide (n < 0) = true then Str.ofString "-" else Str.ofString "") = side n by unfold side; simp only [decide_eq_true_eq]]
  have ks : (side n).length ≤ 1 := by unfold side; split <;> lia
  wtm_at "xgo"
  refine ite_dec (fun hc => ?_) fun hc => ?_
  · rw [if_pos (by unfold nfig; lia)] at hR
    wtm_at "xgo"
    exact hR
  · rw [if_neg (by unfold nfig; lia)] at hR
    wtm_at "xgo"
    refine bin_pow (by lia) ?_
    have z := p10 (k := ((intText n.natAbs).length : Int) - digits) (by lia)
    have ez : (((intText n.natAbs).length : Int) - digits).toNat = nfig n - digits := by unfold nfig; lia
    rw [ez] at z ⊢
    generalize hst : (10 : Int) ^ (nfig n - digits) = st at z
    have zl : 0 ≤ (n.natAbs : Int) / st := Int.ediv_nonneg (by lia) (by lia)
    have zu : (n.natAbs : Int) / st ≤ n.natAbs := Int.ediv_le_self _ (by lia)
    have hlow : lowOf n digits = near n.natAbs st := by unfold lowOf; rw [hst]
    wtm_at "xgh"
    refine ss_ifm (fun σ => σ = ⟨[(.ofString "whole_now", .int n), (.ofString "digits", .int digits), (.ofString "side", .str (side n)), (.ofString "figures", .str (intText n.natAbs)), (.ofString "expo_now", .int ((intText n.natAbs).length - 1)), (.ofString "low", .int (lowOf n digits))], none⟩) ?_ ?_
    · wtm_at "xall" <;> refine midQ_next _ ?_ rfl <;> (first | rw [hlow, near, if_pos (by lia)] | rw [hlow, near, if_neg (by lia)]) <;> wtm_at "xsub"
    rintro σ rfl
    have lt : (intText (lowOf n digits)).length ≤ 18 := len_intText hlb.1 (by lia)
    wtm_at "xgh"
    refine ss_ifm (fun σ => σ = ⟨[(.ofString "side", .str (side n)), (.ofString "figures", .str (intText (lowOf n digits))), (.ofString "expo_now", .int (expOf n digits))], none⟩) ?_ ?_
    · wtm_at "xall" <;> refine midQ_next _ ?_ rfl <;> unfold expOf nfig <;> (first | rw [if_pos (by lia)] | rw [if_neg (by lia)]) <;> wtm_at "xsub"
    rintro σ rfl
    have eb : 0 ≤ expOf n digits ∧ expOf n digits ≤ 7 := by unfold expOf; split <;> lia
    generalize ht : intText (lowOf n digits) = t at lt hR
    refine ss_while (fun m σ => ∃ f k, σ = ⟨[(.ofString "side", .str (side n)), (.ofString "figures", .str f), (.ofString "expo_now", .int (expOf n digits))], none⟩ ∧ cp t = cp f ++ List.replicate k 48 ∧ 1 ≤ f.length ∧ f.length ≤ 18 ∧ f.length = m)
      t.length _ (by wtm_at "xsub") ⟨t, 0, rfl, by simp, by rw [← ht]; exact pos_intText, lt, rfl⟩ ?_
    rintro m σ ⟨f, k, rfl, ef, f1, f2, fm⟩
    wtm_at "xgo"
    have ks0 : (s0 f).length = 1 := rfl
    have ls1 := len_sl_le f (some 1) none
    have li : (intText (100 + expOf n digits)).length ≤ 18 := len_intText (by lia) (by lia)
    have ls2 := len_sl_le (intText (100 + expOf n digits)) (some 1) none
    have fin : Strip t f → R (.ret (.str (longText n digits f))) := hR f
    refine ite_dec (fun hc1 => ?_) fun hc1 => ?_
    · obtain ⟨a, d, ea⟩ : ∃ a d, cp f = a ++ [d] := ⟨(cp f).dropLast, (cp f).getLast (by intro z; rw [cp_len, z] at f1; simp at f1), (List.dropLast_concat_getLast _).symm⟩
      have la : f.length = a.length + 1 := by rw [cp_len, ea]; simp
      wtm_at "xgo"
      refine get_s (n := d) (by lia) (by lia) ?_ ?_
      · rw [show ((f.length : Int) - 1).toNat = a.length by lia, ← Array.getElem?_toList]
        show (cp f)[a.length]? = some d
        rw [ea, List.getElem?_concat_length]
      wtm_at "xgo"
      refine ite_b (fun hd => ?_) fun hd => ?_
      · have ed : d = 48 := by
          have z : (⟨#[d]⟩ : Str) = .ofString "0" := by simpa using hd
          have z2 := congrArg cp z
          rw [show cp (Str.ofString "0") = [48] by decide +kernel] at z2
          simpa [cp] using z2
        subst ed
        wtm_at "xgo"
        have eb1 := cp_but1 f1
        rw [ea, List.length_append, List.length_singleton, Nat.add_sub_cancel, List.take_left] at eb1
        have lb := cp_len (strSl f none (some (-1)))
        rw [eb1] at lb
        refine wlQ_next _ (m - 1) (by wtm_at "xsub") (by lia) ⟨strSl f none (some (-1)), k + 1, rfl, ?_, by lia, by lia, by lia⟩
        rw [ef, ea, eb1, List.append_assoc]; rfl
      · have fin := fin ⟨f1, ⟨k, ef⟩, .inr fun d' hd' => by
          rw [ea] at hd'
          simp at hd'
          subst hd'
          intro z
          subst z
          exact absurd hd (by decide +kernel)⟩
        unfold longText at fin
        rw [if_pos hc1] at fin
        wtm_at "xgo"
        refine ite_dec (fun _ => ?_) fun h => absurd hc1 h
        wtm_at "xgo"
        refine get_s (by lia) (by lia) (first_at f1) ?_
        show binR _ (.str (side n)) (.str (s0 f)) _
        wtm_at "xgo"
        exact fin
    · have fin := fin ⟨f1, ⟨k, ef⟩, .inl (by lia)⟩
      unfold longText at fin
      rw [if_neg hc1] at fin
      wtm_at "xgo"
      refine ite_dec (fun h => absurd h hc1) fun _ => ?_
      wtm_at "xgo"
      refine get_s (by lia) (by lia) (first_at f1) ?_
      show binR _ (.str (side n)) (.str (s0 f)) _
      wtm_at "xgo"
      exact fin
end
theorem bv_len {ds : List V} {R : Res → Prop} (h : sp_break_values ds R) : ∃ x y, ds = [x, y] := by
  rcases h with ⟨x, q, rfl, _⟩ | ⟨xs, lo, hi, n, rfl, _⟩ | ⟨x, bs, rfl, _⟩ <;> exact ⟨_, _, rfl⟩
section
variable {prog : Program} {w : World} {base : Heap} {mg mb : Str → Option Value} (G : Grd prog w (K39 w.params) base mg mb)
include G
theorem ok_law_asked : FnOk false prog w base 12 415 sp_law_asked := by
  have ho : (K39 w.params).lookup 415 = some ⟨_, _, .func (fnOf _ _ _ _ _ _ _ _ _ _ _ _), _⟩ := rfl
  refine fn_go G ho (by kernel_rfl) [.ofString "xs", .ofString "cutting"] [.ofString "xs", .ofString "cutting", .ofString "error"] [] [.ofString "break_values", .ofString "Refusal"] (len_2 fun _ _ s X => BindsTo.of_eq rfl) (by kernel_rfl) (by decide +kernel) (by kernel_rfl) [(.ofString "break_values", true, sp_break_values)] (tbl_cons (ok_break_values G) (by decide) (by kernel_rfl) rfl rfl trivial) (fun ds R hsp => ?_)
  clear ho
  obtain ⟨x, y, rfl⟩ := bv_len (R := fun r => match r with | .ret v => R (.ret v) | .exc m => R (.ret (.str m))) hsp
  refine ⟨rfl, fun c O N B hhi hlv hfn hD => ?_⟩
  have hf0 : c.fn (.ofString "break_values") = some (true, sp_break_values) := (hfn _).trans (by kernel_rfl)
  simp only [List.zip_cons_cons, List.zip_nil_left]
  obtain ⟨D, hD'⟩ := hD
  have hn := hhi rfl
  refine ss_one (sx_try (np := ⟨0, 0, 0, 0⟩) O rfl (by subst hD'; rfl) hn (by subst hD'; rfl) (by subst hD'; rfl) (by wtm_at "xglo") (by wtm_at "xloc") (by decide +kernel) fun hh P => ?_)
  have Oa := O.anew hh P
  have Na := N.anew hh P
  have Ba : Bui (c.anew hh P).K := B
  have hfa : (c.anew hh P).fn (.ofString "break_values") = some (true, sp_break_values) := hf0
  wtm_at "xgo"
  exact hsp
end
noncomputable def en (n : Int) : Nat := nfig n - 1
noncomputable def gi (n : Int) (D : Nat) : Str := genText n 1 D (en n)
/-- the figures of a number -/
noncomputable def dig (m : Nat) : List Nat := (Nat.toDigits 10 m).map Char.toNat
theorem cp_ofStr (l : List Char) : cp (Str.ofString (String.ofList l)) = l.map Char.toNat := by
  rw [Str.ofString_eq_byList]; unfold Str.ofStringByList cp; simp [String.toList_ofList]
theorem cp_int (m : Nat) : cp (intText m) = dig m := by
  unfold intText dig
  rw [show toString (m : Int) = String.ofList (Nat.toDigits 10 m) from Nat.repr_eq_ofList_toDigits, cp_ofStr]
theorem dig_lt {m : Nat} (h : m < 10) : dig m = [48 + m] := by
  unfold dig
  rw [Nat.toDigits_of_lt_base h]
  have : m = 0 ∨ m = 1 ∨ m = 2 ∨ m = 3 ∨ m = 4 ∨ m = 5 ∨ m = 6 ∨ m = 7 ∨ m = 8 ∨ m = 9 := by lia
  rcases this with rfl | rfl | rfl | rfl | rfl | rfl | rfl | rfl | rfl | rfl <;> rfl
theorem dig_ge {m : Nat} (h : 10 ≤ m) : dig m = dig (m / 10) ++ [48 + m % 10] := by
  have := dig_lt (m := m % 10) (by lia)
  unfold dig at this ⊢
  rw [Nat.toDigits_of_base_le (by decide) h, List.map_append, List.map_singleton]
  congr 1
  rw [Nat.toDigits_of_lt_base (by lia), List.map_singleton] at this
  exact this
theorem dig_ten {m : Nat} (h : 0 < m) : dig (m * 10) = dig m ++ [48] := by
  rw [dig_ge (by lia), Nat.mul_div_cancel _ (by decide), Nat.mul_mod_left]
theorem dig_pow {m : Nat} (h : 0 < m) : ∀ j, dig (m * 10 ^ j) = dig m ++ List.replicate j 48
  | 0 => by simp
  | j + 1 => by
    rw [Nat.pow_succ, ← Nat.mul_assoc, dig_ten (Nat.mul_pos h (Nat.pow_pos (by decide))), dig_pow h j, List.append_assoc]
    congr 1
    rw [List.replicate_succ']
theorem dig_all (m : Nat) : ∀ c ∈ dig m, 48 ≤ c ∧ c ≤ 57 := by
  induction m using Nat.strongRecOn with
  | _ m ih =>
    intro c hc
    by_cases h : m < 10
    · rw [dig_lt h, List.mem_singleton] at hc; lia
    · rw [dig_ge (by lia)] at hc
      rcases List.mem_append.mp hc with hc | hc
      · exact ih (m / 10) (by lia) c hc
      · rw [List.mem_singleton] at hc; lia
theorem dig_len {m k : Nat} (hk : 0 < k) : (dig m).length ≤ k ↔ m < 10 ^ k := by
  unfold dig
  rw [List.length_map, Nat.length_toDigits_le_iff (by decide) hk]
theorem dig_pos (m : Nat) : 0 < (dig m).length := by
  by_cases h : m < 10
  · rw [dig_lt h]; simp
  · rw [dig_ge (by lia)]; simp
theorem dig_inj : ∀ {a b : Nat}, dig a = dig b → a = b := by
  intro a
  induction a using Nat.strongRecOn with
  | _ a ih =>
    intro b h
    have hl := congrArg List.length h
    by_cases ha : a < 10
    · by_cases hb : b < 10
      · rw [dig_lt ha, dig_lt hb] at h; simp at h; lia
      · rw [dig_lt ha, dig_ge (by lia)] at hl
        have := dig_pos (b / 10)
        rw [List.length_append] at hl; simp only [List.length_cons, List.length_nil] at hl; lia
    · by_cases hb : b < 10
      · rw [dig_lt hb, dig_ge (m := a) (by lia)] at hl
        have := dig_pos (a / 10)
        rw [List.length_append] at hl; simp only [List.length_cons, List.length_nil] at hl; lia
      · rw [dig_ge (m := a) (by lia), dig_ge (m := b) (by lia)] at h
        have := List.append_inj' h rfl
        have e := ih (a / 10) (by lia) this.1
        have := this.2
        simp at this
        lia
theorem nfig_eq (n : Int) : nfig n = (dig n.natAbs).length := by unfold nfig; rw [cp_len, cp_int]
theorem nfig_le {n : Int} {k : Nat} (hk : 0 < k) : nfig n ≤ k ↔ n.natAbs < 10 ^ k := by rw [nfig_eq, dig_len hk]
theorem near_one (x : Int) : near x 1 = x := by
  unfold near
  rw [Int.ediv_one, Int.mul_one, if_neg]
  lia
theorem near_eq {x d q r : Int} (hx : x = q * d + r) (h0 : 0 ≤ r) (h1 : 2 * r < d) : near x d = q := by
  have hq : x / d = q := by
    rw [hx, Int.add_comm, Int.add_mul_ediv_right _ _ (by lia), Int.ediv_eq_zero_of_lt h0 (by lia)]; lia
  unfold near
  rw [hq, if_neg]
  lia
theorem cp_side (n : Int) : cp (side n) = if n < 0 then [45] else [] := by unfold side; split <;> decide +kernel
/-- a number with its places -/
theorem fix_text {n d : Int} {p m : Nat} (h : near (n.natAbs * 10 ^ p) d = ((m * 10 ^ p : Nat) : Int)) : cp (fixText n d p) = cp (side n) ++ (dig m ++ if p = 0 then [] else 46 :: List.replicate p 48) := by
  have hz : (Str.ofString "0").cps.getD 0 0 = 48 := by decide +kernel
  have ht : cp (Txt.rjustF (intText (near (n.natAbs * 10 ^ p) d)) (p + 1) 48) = dig m ++ List.replicate p 48 := by
    rw [cp_rjust, h, cp_int]
    by_cases hm : m = 0
    · subst hm
      rw [Nat.zero_mul, show dig 0 = [48] from dig_lt (by decide)]
      rw [show ((p : Int) + 1).toNat - [48].length = p by simp]
      rw [← List.replicate_succ']; rfl
    · have := dig_pos m
      rw [dig_pow (by lia)]
      rw [show ((p : Int) + 1).toNat - (dig m ++ List.replicate p (48 : Nat)).length = 0 by rw [List.length_append, List.length_replicate]; lia]
      rfl
  unfold fixText
  dsimp only
  rw [hz, Int.toNat_natCast]
  generalize Txt.rjustF (intText (near (n.natAbs * 10 ^ p) d)) (p + 1) 48 = t at ht
  have hl : t.length = (dig m).length + p := by rw [cp_len, ht]; simp
  have body : cp (if 0 < (p : Int) then strSl t none (some (t.length - p)) ++ .ofString "." ++ strSl t (some (t.length - p)) none else t) = dig m ++ if p = 0 then [] else 46 :: List.replicate p 48 := by
    by_cases hp : p = 0
    · rw [if_neg (by lia), if_pos hp, ht, hp]; rfl
    · rw [if_pos (by lia), if_neg hp, cp_app, cp_app, cp_to (by lia) (by lia), cp_from (by lia) (by lia), ht]
      rw [show ((t.length : Int) - p).toNat = (dig m).length by lia, List.take_left, List.drop_left, show cp (Str.ofString ".") = [46] by decide +kernel]
      simp
  unfold side
  split
  · rw [cp_app, body]
  · rw [body]; rfl
theorem oe : Str.ofString "e" = ⟨#[101]⟩ := by decide +kernel
theorem odot : Str.ofString "." = ⟨#[46]⟩ := by decide +kernel
theorem o0 : Str.ofString "0" = ⟨#[48]⟩ := by decide +kernel
noncomputable def core (b : Str) : Str := if Txt.contains b (.ofString ".") = true then Txt.rstripChars (Txt.rstripChars b (.ofString "0")) (.ofString ".") else b
theorem core_no {b : Str} (h : 46 ∉ cp b) : core b = b := by
  unfold core
  rw [odot, contains_iff, decide_eq_false h, if_neg (by decide)]
theorem core_dot {b : Str} {A R : List Nat} {k : Nat} (h : cp b = A ++ 46 :: (R ++ List.replicate k 48)) (hR : ∀ d, R.getLast? = some d → d ≠ 48 ∧ d ≠ 46) (hA : ∀ d, A.getLast? = some d → d ≠ 46) :
    cp (core b) = A ++ if R = [] then [] else 46 :: R := by
  unfold core
  rw [odot, contains_iff, decide_eq_true (by rw [h]; simp), if_pos rfl, o0]
  have e1 : cp (Txt.rstripChars b ⟨#[48]⟩) = A ++ 46 :: R := by
    refine rstrip_at (k := k) (by rw [h]; simp) fun d hd => ?_
    rw [List.getLast?_append, List.getLast?_cons] at hd
    cases hr : R.getLast? with
    | none => rw [hr] at hd; simp at hd; lia
    | some z => rw [hr] at hd; simp at hd; subst hd; exact (hR z hr).1
  by_cases hn : R = []
  · subst hn
    rw [if_pos rfl, List.append_nil]
    exact rstrip_at (k := 1) (by rw [e1]; rfl) hA
  · rw [if_neg hn]
    refine rstrip_at (k := 0) (by rw [e1]; simp) fun d hd => ?_
    rw [List.getLast?_append, List.getLast?_cons] at hd
    cases hr : R.getLast? with
    | none => exact absurd (List.getLast?_eq_none_iff.mp hr) hn
    | some z => rw [hr] at hd; simp at hd; subst hd; exact (hR z hr).2
theorem wo_eq (b : Str) : woZeros b = core (if 0 ≤ Txt.find b (.ofString "e") then strSl b none (some (Txt.find b (.ofString "e"))) else b) ++ (if 0 ≤ Txt.find b (.ofString "e") then strSl b (some (Txt.find b (.ofString "e"))) none else .ofString "") := rfl
theorem wo_plain {b : Str} (h : 101 ∉ cp b) : woZeros b = core b := by
  have m : ¬ (0 : Int) ≤ -1 := by decide
  rw [wo_eq, oe, find_not h, if_neg m, if_neg m]
  apply cp_ext
  rw [cp_app, show cp (Str.ofString "") = [] by decide +kernel, List.append_nil]
theorem wo_e {b B : Str} {T : List Nat} (h : cp b = cp B ++ 101 :: T) (hn : 101 ∉ cp B) : cp (woZeros b) = cp (core B) ++ 101 :: T := by
  have hl : (cp B).length ≤ b.length := by rw [cp_len, h]; simp
  have m : (0 : Int) ≤ ((cp B).length : Int) := by lia
  have e1 : strSl b none (some ((cp B).length : Int)) = B := by
    apply cp_ext
    rw [cp_to (by lia) (by lia), h, Int.toNat_natCast, List.take_left]
  have e2 : cp (strSl b (some ((cp B).length : Int)) none) = 101 :: T := by
    rw [cp_from (by lia) (by lia), h, Int.toNat_natCast, List.drop_left]
  rw [wo_eq, oe, find_at h hn, if_pos m, if_pos m, e1, cp_app, e2]
theorem dig_no {m c : Nat} (h : c < 48 ∨ 57 < c) : c ∉ dig m := fun z => by have := dig_all m c z; lia
theorem side_no {n : Int} {c : Nat} (h : c ≠ 45) : c ∉ cp (side n) := by rw [cp_side]; split <;> simp [h]
/-- a number with nothing behind the point -/
theorem wo_fix {n d : Int} {p m : Nat} (h : near (n.natAbs * 10 ^ p) d = ((m * 10 ^ p : Nat) : Int)) : cp (woZeros (fixText n d p)) = cp (side n) ++ dig m := by
  have e := fix_text h
  have n1 : 101 ∉ cp (fixText n d p) := by
    rw [e]
    simp only [List.mem_append, not_or]
    refine ⟨side_no (by decide), dig_no (by lia), ?_⟩
    split
    · simp
    · simp
  rw [wo_plain n1]
  by_cases hp : p = 0
  · rw [core_no, e, if_pos hp, List.append_nil]
    rw [e, if_pos hp]
    simp only [List.mem_append, not_or]
    exact ⟨side_no (by decide), dig_no (by lia), by simp⟩
  · rw [if_neg hp, ← List.append_assoc] at e
    rw [core_dot (R := []) (k := p) e (fun d hd => by simp at hd) fun d hd => ?_, if_pos rfl, List.append_nil]
    have hm := List.mem_of_getLast? hd
    rintro rfl
    rcases List.mem_append.mp hm with z | z
    · exact side_no (by decide) z
    · exact dig_no (by lia) z
theorem sig_short {n d : Int} {D e m : Nat} (he : e + 1 ≤ D) (h : near (n.natAbs * 10 ^ (D - 1 - e)) d = ((m * 10 ^ (D - 1 - e) : Nat) : Int)) (hm : m * 10 ^ (D - 1 - e) < 10 ^ D) : sig n d D e = (((m * 10 ^ (D - 1 - e) : Nat) : Int), (e : Int)) := by
  have e1 : sigN n d D e = ((m * 10 ^ (D - 1 - e) : Nat) : Int) := by
    unfold sigN
    rw [if_pos (by lia), show ((D : Int) - 1 - e).toNat = D - 1 - e by lia, h]
  unfold sig
  rw [e1, Int.toNat_natCast, if_neg]
  have : (10 : Int) ^ D = ((10 ^ D : Nat) : Int) := by simp
  rw [this]
  lia
theorem p10n (k : Nat) : (10 : Int) ^ k = ((10 ^ k : Nat) : Int) := by simp
theorem gen_short {n : Int} {D : Nat} (hn : n.natAbs < 10 ^ 7) (h1 : 1 ≤ D) (h2 : D ≤ 12) (h : nfig n ≤ D) : gi n D = side n ++ intText n.natAbs := by
  apply cp_ext
  rw [cp_app, cp_int]
  unfold gi genText
  by_cases hz : n = 0
  · subst hz
    rw [if_pos rfl]
    rw [show ((D : Int) - 1) = ((D - 1 : Nat) : Int) by lia]
    exact wo_fix (m := 0) (by rw [near_one]; simp)
  · have hp := nfig_bounds hn
    have hb : n.natAbs < 10 ^ nfig n := (nfig_le (by lia)).mp (Nat.le_refl _)
    have e : en n + 1 = nfig n := by unfold en; lia
    have hs : sig n 1 D (en n) = _ := sig_short (m := n.natAbs) (e := en n) (D := D) (by lia) (by rw [near_one, p10n]; simp) (by
      calc n.natAbs * 10 ^ (D - 1 - en n) < 10 ^ nfig n * 10 ^ (D - 1 - en n) := Nat.mul_lt_mul_of_pos_right hb (Nat.pow_pos (by decide))
        _ = 10 ^ D := by rw [← Nat.pow_add]; congr 1; lia)
    rw [if_neg hz, hs, if_pos (by simp only; lia)]
    simp only
    rw [show ((D : Int) - 1 - (en n : Int)) = ((D - 1 - en n : Nat) : Int) by lia]
    exact wo_fix (by rw [near_one, p10n]; simp)
theorem strOk_dig (m : Nat) : PyData.strOk (intText m) = true := by
  unfold PyData.strOk
  rw [← Array.all_toList, List.all_eq_true]
  intro c hc
  have hc : c ∈ dig m := by rw [← cp_int]; exact hc
  have := dig_all m c hc
  exact decide_eq_true (by lia)
theorem gi_inj {a b : Int} (ha : a.natAbs < 10 ^ 7) (hb : b.natAbs < 10 ^ 7) (h : gi a 7 = gi b 7) : a = b := by
  rw [gen_short ha (by decide) (by decide) (nfig_bounds ha).2, gen_short hb (by decide) (by decide) (nfig_bounds hb).2] at h
  have h := congrArg cp h
  rw [cp_app, cp_app, cp_int, cp_int, cp_side, cp_side] at h
  have no : ∀ m x, dig m ≠ 45 :: x := fun m x e => dig_no (m := m) (c := 45) (by decide) (by rw [e]; exact List.mem_cons_self)
  by_cases ha' : a < 0 <;> by_cases hb' : b < 0
  · rw [if_pos ha', if_pos hb'] at h
    have := dig_inj (List.append_cancel_left h); lia
  · rw [if_pos ha', if_neg hb'] at h; exact absurd h.symm (no _ _)
  · rw [if_neg ha', if_pos hb'] at h; exact absurd h (no _ _)
  · rw [if_neg ha', if_neg hb'] at h
    have := dig_inj (List.append_cancel_left h); lia
theorem near_le {x d : Int} (h0 : 0 ≤ x) (hd : 0 < d) : 0 ≤ near x d ∧ near x d ≤ x + 1 := by
  have q0 : 0 ≤ x / d := Int.ediv_nonneg h0 (by lia)
  have q1 : x / d ≤ x := Int.ediv_le_self _ h0
  unfold near
  split <;> lia
theorem k18 : (10 : Int) ^ 18 = 1000000000000000000 := by decide
theorem k12 : (10 : Int) ^ 12 = 1000000000000 := by decide
theorem one_sig {n d : Int} {D : Nat} (h1 : 1 ≤ D) (h : near (n.natAbs * 10 ^ (D - 1)) d = ((1 * 10 ^ (D - 1) : Nat) : Int)) : sig n d D 0 = (((1 * 10 ^ (D - 1) : Nat) : Int), 0) := by
  have := sig_short (n := n) (d := d) (D := D) (e := 0) (m := 1) (by lia) (by simpa using h) (by rw [Nat.one_mul]; exact Nat.pow_lt_pow_right (by decide) (by lia))
  simpa using this
theorem one_text {n d : Int} {D : Nat} (h0 : 0 < n) (h1 : 1 ≤ D) (h : near (n.natAbs * 10 ^ (D - 1)) d = ((1 * 10 ^ (D - 1) : Nat) : Int)) : genText n d D 0 = .ofString "1" := by
  apply cp_ext
  unfold genText
  rw [if_neg (by lia), one_sig h1 h, if_pos (by simp only; lia)]
  simp only
  rw [show ((D : Int) - 1 - 0) = ((D - 1 : Nat) : Int) by lia, wo_fix h, cp_side, if_neg (by lia), dig_lt (by decide)]
  decide +kernel
theorem one_ask {n d : Int} {D : Nat} (hd : 0 < d) (le : d ≤ n) (lt : n < 10 * d) (d16 : d ≤ 10 ^ 16) (h1 : 1 ≤ D) (h2 : D ≤ 12) (h : near (n.natAbs * 10 ^ (D - 1)) d = ((1 * 10 ^ (D - 1) : Nat) : Int)) : Ask n d D 0 := by
  have k16 : (10 : Int) ^ 16 = 10000000000000000 := by decide
  have k64 : (2 : Int) ^ 64 = 18446744073709551616 := by decide
  have b : ((1 * 10 ^ (D - 1) : Nat) : Int) ≤ 10 ^ 12 := by rw [Nat.one_mul, ← p10n]; exact p10_mono (by lia)
  have hs := one_sig h1 h
  refine ⟨hd, by lia, by lia, fun z => by lia, fun _ => ⟨hd, by lia, ⟨by lia, by lia⟩, by lia, by lia, by lia, ?_, by rw [hs, k18]; simp only; lia⟩, fun _ _ => ?_⟩
  · have hp : (10 : Int) ^ (((0 : Nat) : Int) + 2 - (D : Int)).toNat ≤ 10 ^ 1 := p10_mono (by lia)
    have := Int.mul_le_mul_of_nonneg_left hp (Int.le_of_lt hd)
    lia
  · rw [hs]
    simp only
    refine ⟨hd, by lia, by lia, by lia, ?_⟩
    rw [show ((D : Int) - 1 - 0).toNat = D - 1 by lia, h, k18]
    lia
noncomputable def cl (k : Nat) : List (Int × Int) := [(1, 1), (10 ^ k + 1, 10 ^ k), (10 ^ k / 2 + 1, 10 ^ k / 2)]
theorem near_big {d : Int} {D : Nat} (hd : 0 < d) (h : 2 * 10 ^ (D - 1) < d) : near ((d + 1).natAbs * 10 ^ (D - 1)) d = ((1 * 10 ^ (D - 1) : Nat) : Int) := by
  rw [Nat.one_mul, ← p10n, show (((d + 1).natAbs : Nat) : Int) = d + 1 by lia]
  refine near_eq (r := 10 ^ (D - 1)) ?_ (Int.le_of_lt (Int.pow_pos (by decide))) h
  rw [Int.add_mul, Int.one_mul, Int.mul_comm]
theorem cl_near {k D : Nat} (h1 : 13 ≤ k) (h2 : k ≤ 16) (h3 : 1 ≤ D) (h4 : D ≤ 12) : ∀ p ∈ cl k, (0 < p.2 ∧ p.2 ≤ p.1 ∧ p.1 < 10 * p.2 ∧ p.2 ≤ 10 ^ 16) ∧ near (p.1.natAbs * 10 ^ (D - 1)) p.2 = ((1 * 10 ^ (D - 1) : Nat) : Int) := by
  have k16 : (10 : Int) ^ 16 = 10000000000000000 := by decide
  have k13 : (10 : Int) ^ 13 = 10000000000000 := by decide
  have k11 : (10 : Int) ^ 11 = 100000000000 := by decide
  have a : (10 : Int) ^ 13 ≤ 10 ^ k := p10_mono h1
  have b : (10 : Int) ^ k ≤ 10 ^ 16 := p10_mono h2
  have c : (10 : Int) ^ (D - 1) ≤ 10 ^ 11 := p10_mono (by lia)
  intro p hp
  simp only [cl, List.mem_cons, List.not_mem_nil, or_false] at hp
  rcases hp with rfl | rfl | rfl
  · refine ⟨by simp only; lia, ?_⟩
    rw [near_one, p10n]; simp
  · exact ⟨by simp only; lia, near_big (by lia) (by lia)⟩
  · exact ⟨by simp only; lia, near_big (by lia) (by lia)⟩
theorem cl_ask {k D : Nat} (h1 : 13 ≤ k) (h2 : k ≤ 16) (h3 : 1 ≤ D) (h4 : D ≤ 12) : ∀ p ∈ cl k, Ask p.1 p.2 D 0 := fun p hp => by
  obtain ⟨⟨a, b, c, d⟩, h⟩ := cl_near h1 h2 h3 h4 p hp
  exact one_ask a b c d h3 h4 h
theorem cl_text {k D : Nat} (h1 : 13 ≤ k) (h2 : k ≤ 16) (h3 : 1 ≤ D) (h4 : D ≤ 12) : ∀ p ∈ cl k, genText p.1 p.2 D 0 = .ofString "1" := fun p hp => by
  obtain ⟨⟨a, b, c, d⟩, h⟩ := cl_near h1 h2 h3 h4 p hp
  exact one_text (by lia) h3 h
theorem en_nfig {n : Int} (hn : n.natAbs < 10 ^ 7) : en n + 1 = nfig n := by have := nfig_bounds hn; unfold en; lia
theorem abs_lt {n : Int} (hn : n.natAbs < 10 ^ 7) : (n.natAbs : Int) < 10 ^ (en n + 1) := by
  have hp := nfig_bounds hn
  have := (nfig_le (n := n) (k := nfig n) (by lia)).mp (Nat.le_refl _)
  rw [en_nfig hn, p10n]; lia
theorem abs_ge {n : Int} (hn : n.natAbs < 10 ^ 7) (h0 : n ≠ 0) : 10 ^ en n ≤ (n.natAbs : Int) := by
  have hp := nfig_bounds hn
  by_cases e0 : en n = 0
  · rw [e0]; simp; lia
  · have : ¬ nfig n ≤ en n := by have := en_nfig hn; lia
    rw [nfig_le (by lia)] at this
    rw [p10n]; lia
/-- a scaled number is small -/
theorem sigN_le {n : Int} {D e' : Nat} (hn : n.natAbs < 10 ^ 7) (h1 : 1 ≤ D) (h2 : D ≤ 12) (he : en n ≤ e') : 0 ≤ sigN n 1 D e' ∧ sigN n 1 D e' ≤ 10 ^ 12 + 1 := by
  have a := abs_lt hn
  unfold sigN
  split
  · rename_i h
    rw [near_one]
    have p0 : (0 : Int) < 10 ^ ((D : Int) - 1 - e').toNat := Int.pow_pos (by decide)
    refine ⟨Int.mul_nonneg (by lia) (Int.le_of_lt p0), ?_⟩
    have m := Int.mul_le_mul_of_nonneg_right (Int.le_of_lt a) (Int.le_of_lt p0)
    rw [← Int.pow_add] at m
    have := p10_mono (show en n + 1 + ((D : Int) - 1 - e').toNat ≤ 12 by lia)
    lia
  · have p0 : (0 : Int) < 10 ^ (0 - ((D : Int) - 1 - e')).toNat := Int.pow_pos (by decide)
    have := near_le (x := n.natAbs) (d := 1 * 10 ^ (0 - ((D : Int) - 1 - e')).toNat) (by lia) (by lia)
    rw [k12]
    lia
theorem sig_cases (n D : Int) (e : Nat) : (sig n 1 D e = (sigN n 1 D (e + 1), (e : Int) + 1)) ∨ sig n 1 D e = (sigN n 1 D e, (e : Int)) := by
  unfold sig; split
  · exact .inl rfl
  · exact .inr rfl
theorem ask_int {n : Int} {D : Nat} (hn : n.natAbs < 10 ^ 7) (h1 : 1 ≤ D) (h2 : D ≤ 12) : Ask n 1 D (en n) := by
  have hp := nfig_bounds hn
  have he := en_nfig hn
  have k64 : (2 : Int) ^ 64 = 18446744073709551616 := by decide
  have l1 := sigN_le (e' := en n + 1) hn h1 h2 (by lia)
  have l2 := sigN_le (e' := en n) hn h1 h2 (by lia)
  have a := abs_lt hn
  refine ⟨by decide, by lia, by lia, fun z => ?_, fun h0 => ?_, fun h0 hlt => ?_⟩
  · subst z
    refine ⟨by decide, by decide, by lia, by lia, ?_⟩
    rw [near_one]; simp
  · have b := abs_ge hn h0
    refine ⟨by decide, by lia, ⟨by lia, by lia⟩, by lia, by lia, by lia, ?_, ?_⟩
    · have := p10_mono (show ((en n : Int) + 2 - D).toNat ≤ 12 by lia)
      rw [k12] at this
      lia
    · rw [k18]
      rw [k12] at l1 l2
      rcases sig_cases n D (en n) with e | e <;> rw [e] <;> simp only
      · exact ⟨l1.1, by have := l1.2; push_cast at this ⊢; lia⟩
      · lia
  · have hge : (en n : Int) ≤ (sig n 1 D (en n)).2 := by rcases sig_cases n D (en n) with e | e <;> rw [e] <;> simp only <;> lia
    generalize (sig n 1 D (en n)).2 = s at hlt hge
    refine ⟨by decide, by decide, by lia, by lia, ?_⟩
    rw [near_one]
    have p0 : (0 : Int) < 10 ^ ((D : Int) - 1 - s).toNat := Int.pow_pos (by decide)
    refine ⟨Int.mul_nonneg (by lia) (Int.le_of_lt p0), ?_⟩
    have m := Int.mul_le_mul_of_nonneg_right (Int.le_of_lt a) (Int.le_of_lt p0)
    rw [← Int.pow_add] at m
    have := p10_mono (show en n + 1 + ((D : Int) - 1 - s).toNat ≤ 12 by lia)
    rw [k18]; rw [k12] at this
    lia
noncomputable def lt (n : Int) (f : Str) (E : Int) : Str := side n ++ s0 f ++ (if 1 < (f.length : Int) then .ofString "." ++ strSl f (some 1) none else .ofString "") ++ .ofString "e+" ++ strSl (intText (100 + E)) (some 1) none
theorem cp_cons {x : Str} (h : 1 ≤ x.length) : ∃ c r, cp x = c :: r := by
  rw [cp_len] at h
  cases e : cp x with
  | nil => rw [e] at h; simp at h
  | cons c r => exact ⟨c, r, rfl⟩
theorem cp_s0' {x : Str} {c : Nat} {r : List Nat} (h : cp x = c :: r) : cp (s0 x) = [c] := by
  show cp (⟨#[x.cps.getD 0 0]⟩ : Str) = _
  rw [cp_s0, h]; rfl
theorem cp_tl {x : Str} {c : Nat} {r : List Nat} (h : cp x = c :: r) : cp (strSl x (some 1) none) = r := by
  rw [cp_from (by decide) (by rw [cp_len, h]; simp; lia), h]; rfl
theorem cp_e : cp (Str.ofString "e+") = [101, 43] ∧ cp (Str.ofString ".") = [46] ∧ cp (Str.ofString "") = [] ∧ cp (Str.ofString "-") = [45] := by decide +kernel
theorem ex_tab : ∀ E : Nat, E ≤ 8 → cp (Txt.rjustF (intText E) 2 48) = cp (strSl (intText (100 + E : Nat)) (some 1) none) := by decide +kernel
theorem cp_lt {n : Int} {f : Str} {E : Int} {c : Nat} {r : List Nat} (h : cp f = c :: r) : cp (lt n f E) = cp (side n) ++ [c] ++ (if r = [] then [] else 46 :: r) ++ 101 :: 43 :: cp (strSl (intText (100 + E)) (some 1) none) := by
  have hl : f.length = r.length + 1 := by rw [cp_len, h]; rfl
  unfold lt
  rw [cp_app, cp_app, cp_app, cp_app, cp_s0' h, cp_e.1]
  by_cases hr : r = []
  · rw [if_neg (by rw [hl, hr]; simp), if_pos hr, cp_e.2.2.1]; simp
  · have : 0 < r.length := List.length_pos_iff.mpr hr
    rw [if_pos (by lia), if_neg hr, cp_app, cp_e.2.1, cp_tl h]; simp
theorem cp_dig_mem {f : Str} {m k : Nat} (h : dig m = cp f ++ List.replicate k 48) : ∀ c ∈ cp f, 48 ≤ c ∧ c ≤ 57 := fun c hc => dig_all m c (by rw [h]; exact List.mem_append_left _ hc)
theorem sci_side {n : Int} (h0 : n ≠ 0) : (if (if 0 < n then (1 : Int) else -1) < 0 then Str.ofString "-" else .ofString "") = side n := by
  unfold side
  by_cases h : 0 < n
  · rw [if_pos h, if_neg (by decide), if_neg (by lia)]
  · rw [if_neg h, if_pos (by decide), if_pos (by lia)]
theorem sci_text {n : Int} {m D E k : Nat} {f : Str} {e : Nat} (h0 : n ≠ 0) (hs : sig n 1 D e = ((m : Int), (E : Int))) (hD : (dig m).length = D) (hf : dig m = cp f ++ List.replicate k 48) (f1 : 1 ≤ f.length) (f2 : f.length = 1 ∨ ∀ d, (cp f).getLast? = some d → d ≠ 48)
    (hE : E ≤ 8) (hlt : D ≤ E) : genText n 1 D e = lt n f E := by
  obtain ⟨c, r, hc⟩ := cp_cons f1
  have hm := cp_dig_mem hf
  rw [hc] at hm
  have hcd := hm c List.mem_cons_self
  have hz : (Str.ofString "0").cps.getD 0 0 = 48 := by decide +kernel
  have ht : cp (intText m) = c :: (r ++ List.replicate k 48) := by rw [cp_int, hf, hc]; rfl
  apply cp_ext
  rw [cp_lt hc]
  unfold genText
  rw [if_neg h0, hs, if_neg (by simp only; lia)]
  unfold sciText
  dsimp only
  rw [hs, sci_side h0, hz]
  simp only
  rw [if_neg (show ¬ (E : Int) < 0 by lia), show ((E : Int).natAbs : Int) = ((E : Nat) : Int) by lia]
  obtain ⟨B, hB⟩ : ∃ B, B = if 1 < (D : Int) then side n ++ s0 (intText m) ++ .ofString "." ++ strSl (intText m) (some 1) none else side n ++ s0 (intText m) := ⟨_, rfl⟩
  rw [← hB]
  have ex := ex_tab E hE
  have ee : (100 + E : Nat) = (100 + (E : Int)) := by lia
  have cB : cp B = cp (side n) ++ [c] ++ if 1 < D then 46 :: (r ++ List.replicate k 48) else [] := by
    rw [hB]
    by_cases hd : 1 < D
    · rw [if_pos (by lia), if_pos hd, cp_app, cp_app, cp_app, cp_s0' ht, cp_tl ht, cp_e.2.1]; simp
    · rw [if_neg (by lia), if_neg hd, cp_app, cp_s0' ht, List.append_nil]
  have nos : ∀ x, x < 48 ∨ 57 < x → x ≠ 45 → x ∉ cp (side n) ++ [c] := fun x hx hx' z => by
    rcases List.mem_append.mp z with z | z
    · exact side_no hx' z
    · rw [List.mem_singleton] at z; lia
  have nor : ∀ x, x < 48 ∨ 57 < x → x ∉ r ++ List.replicate k 48 := fun x hx z => by
    rcases List.mem_append.mp z with z | z
    · have := hm x (List.mem_cons_of_mem _ z); lia
    · have := List.eq_of_mem_replicate z; lia
  have hcore : cp (core B) = cp (side n) ++ [c] ++ if r = [] then [] else 46 :: r := by
    by_cases hd : 1 < D
    · rw [if_pos hd] at cB
      refine core_dot cB (fun d hd' => ?_) fun d hd' => ?_
      · have hr : d ∈ r := List.mem_of_getLast? hd'
        have := hm d (List.mem_cons_of_mem _ hr)
        refine ⟨?_, by lia⟩
        rcases f2 with z | z
        · rw [cp_len, hc] at z
          have : r = [] := List.length_eq_zero_iff.mp (by simpa using z)
          rw [this] at hr; cases hr
        · refine z d ?_
          rw [hc, List.getLast?_cons, hd']; rfl
      · rw [List.getLast?_append] at hd'
        simp at hd'
        lia
    · rw [if_neg hd, List.append_nil] at cB
      have hr : r = [] := by
        have := congrArg List.length hf
        rw [hc, hD] at this
        simp at this
        exact List.length_eq_zero_iff.mp (by lia)
      rw [core_no (by rw [cB]; exact nos 46 (by lia) (by decide)), cB, if_pos hr, List.append_nil]
  have cT : cp (B ++ Str.ofString "e+" ++ Txt.rjustF (intText (E : Int)) 2 48) = cp B ++ 101 :: (43 :: cp (strSl (intText (100 + (E : Int))) (some 1) none)) := by
    rw [cp_app, cp_app, cp_e.1, ex, ee]; simp
  rw [wo_e cT, hcore]
  rw [cB]
  intro z
  rcases List.mem_append.mp z with z | z
  · exact nos 101 (by lia) (by decide) z
  · split at z
    · rcases List.mem_cons.mp z with z | z
      · cases z
      · exact nor 101 (by lia) z
    · cases z
theorem near_q {x d q : Int} (hd : 0 < d) (h0 : q * d ≤ x) (h1 : x < q * d + d) : near x d = if d < 2 * (x - q * d) ∨ (2 * (x - q * d) = d ∧ q % 2 = 1) then q + 1 else q := by
  have hq : x / d = q := by
    rw [show x = (x - q * d) + q * d by lia, Int.add_mul_ediv_right _ _ (by lia), Int.ediv_eq_zero_of_lt (by lia) (by lia)]; lia
  unfold near
  rw [hq]
/-- rounding, seen from its last place -/
theorem low_facts {A s X : Int} (hs : 0 < s) (h0 : X * s ≤ A) (h1 : A < 10 * X * s) : X ≤ near A s ∧ near A s ≤ 10 * X ∧ (near A s = 10 * X → near A (10 * s) = X) := by
  have e1 : A = A / s * s + A % s := by have := Int.mul_ediv_add_emod A s; rw [Int.mul_comm] at this; lia
  have r0 : 0 ≤ A % s := Int.emod_nonneg _ (by lia)
  have r1 : A % s < s := Int.emod_lt_of_pos _ hs
  have q1 : X ≤ A / s := (Int.le_ediv_iff_mul_le hs).mpr h0
  have q2 : A / s < 10 * X := (Int.ediv_lt_iff_lt_mul hs).mpr h1
  generalize A / s = q at *
  generalize A % s = r at *
  have hn := near_q (x := A) (q := q) hs (by lia) (by lia)
  rw [show A - q * s = r by lia] at hn
  refine ⟨by rw [hn]; split <;> lia, by rw [hn]; split <;> lia, fun h => ?_⟩
  rw [hn] at h
  split at h
  · have q3 : q = 10 * X - 1 := by lia
    subst q3
    have e2 : (10 * X - 1) * s = (X - 1) * (10 * s) + 9 * s := by
      rw [Int.sub_mul, Int.sub_mul, Int.mul_comm 10 X, Int.mul_assoc, Int.one_mul, Int.one_mul]; lia
    rw [near_q (q := X - 1) (by lia) (by lia) (by lia), if_pos (by lia)]
    lia
  · lia
theorem dig_p10 (j : Nat) : dig (10 ^ j) = 49 :: List.replicate j 48 := by
  have := dig_pow (m := 1) (by decide) j
  rw [Nat.one_mul, show dig 1 = [49] from dig_lt (by decide)] at this
  exact this
theorem long_facts {n : Int} {D : Nat} (hn : n.natAbs < 10 ^ 7) (h1 : 1 ≤ D) (h : ¬ nfig n ≤ D) : ∃ (m E k : Nat), sig n 1 D (en n) = ((m : Int), (E : Int)) ∧ (dig m).length = D ∧ D ≤ E ∧ E ≤ 8 ∧ expOf n D = E ∧
    ∀ f, Strip (intText (lowOf n D)) f → ∃ k, dig m = cp f ++ List.replicate k 48 := by
  have hp := nfig_bounds hn
  have he := en_nfig hn
  have h0 : n ≠ 0 := by
    rintro rfl
    have := (nfig_le (n := 0) (k := 1) (by decide)).mpr (by decide)
    lia
  have a := abs_lt hn
  have b := abs_ge hn h0
  have s0 : (0 : Int) < 10 ^ (nfig n - D) := Int.pow_pos (by decide)
  have x1 : (10 : Int) ^ en n = 10 ^ (D - 1) * 10 ^ (nfig n - D) := by rw [← Int.pow_add]; congr 1; lia
  have x2 : (10 : Int) ^ (en n + 1) = 10 * 10 ^ (D - 1) * 10 ^ (nfig n - D) := by rw [Int.pow_succ, x1, Int.mul_comm, Int.mul_assoc]
  have x3 : (10 : Int) ^ D = 10 * 10 ^ (D - 1) := by rw [show D = D - 1 + 1 by lia, Int.pow_succ, Int.mul_comm]; rfl
  rw [x1] at b
  rw [x2] at a
  obtain ⟨f1, f2, f3⟩ := low_facts s0 b a
  have hlow : near n.natAbs (10 ^ (nfig n - D)) = lowOf n D := rfl
  rw [hlow] at f1 f2 f3
  have e1 : sigN n 1 D (en n) = lowOf n D := by
    unfold sigN
    rw [if_neg (by lia), show (0 - ((D : Int) - 1 - (en n : Int))).toNat = nfig n - D by lia, Int.one_mul]; rfl
  obtain ⟨L, hL⟩ : ∃ L : Nat, lowOf n D = (L : Int) := ⟨(lowOf n D).toNat, by have : (0 : Int) < 10 ^ (D - 1) := Int.pow_pos (by decide); lia⟩
  have lenL : (intText (lowOf n D)).length = (dig L).length := by rw [hL, cp_len, cp_int]
  have n1 : (10 : Int) ^ (D - 1) = ((10 ^ (D - 1) : Nat) : Int) := p10n _
  have n2 : (10 : Int) ^ D = ((10 ^ D : Nat) : Int) := p10n _
  have n3 : (10 : Nat) ^ D = 10 * 10 ^ (D - 1) := by rw [show D = D - 1 + 1 by lia, Nat.pow_succ, Nat.mul_comm]; rfl
  by_cases hc : lowOf n D = 10 * 10 ^ (D - 1)
  · have e2 : sigN n 1 D ((en n : Int) + 1) = 10 ^ (D - 1) := by
      unfold sigN
      rw [if_neg (by lia), show (0 - ((D : Int) - 1 - ((en n : Int) + 1))).toNat = nfig n - D + 1 by lia, Int.one_mul, Int.pow_succ, Int.mul_comm]
      exact f3 hc
    have hs : sig n 1 D (en n) = (((10 ^ (D - 1) : Nat) : Int), ((en n + 1 : Nat) : Int)) := by
      unfold sig
      rw [e1, Int.toNat_natCast, if_pos (by lia), e2, n1]; rfl
    have hL2 : L = 10 ^ D := by lia
    refine ⟨10 ^ (D - 1), en n + 1, 0, hs, by rw [dig_p10]; simp; lia, by lia, by lia, ?_, ?_⟩
    · unfold expOf
      rw [lenL, hL2, dig_p10, if_pos (by simp; lia)]; lia
    · intro f ⟨g1, ⟨k, g2⟩, g3⟩
      rw [hL, cp_int, hL2, dig_p10] at g2
      obtain ⟨c, r, hf⟩ := cp_cons g1
      rw [hf] at g2
      simp only [List.cons_append, List.cons.injEq] at g2
      obtain ⟨rfl, g2⟩ := g2
      have hr : r = [] := by
        rcases g3 with g3 | g3
        · rw [cp_len, hf] at g3; exact List.length_eq_zero_iff.mp (by simpa using g3)
        · cases hq : r.getLast? with
          | none => exact List.getLast?_eq_none_iff.mp hq
          | some d =>
            have h48 : d = 48 := List.eq_of_mem_replicate (n := D) (by rw [g2]; exact List.mem_append_left _ (List.mem_of_getLast? hq))
            exact absurd h48 (g3 d (by rw [hf, List.getLast?_cons, hq]; rfl))
      exact ⟨D - 1, by rw [dig_p10, hf, hr]; rfl⟩
  · have hs : sig n 1 D (en n) = ((L : Int), (en n : Int)) := by
      unfold sig
      rw [e1, Int.toNat_natCast, if_neg (by lia), hL]
    have l1 : (dig L).length ≤ D := (dig_len (by lia)).mpr (by lia)
    have l2 : ¬ (dig L).length ≤ D - 1 := by
      by_cases hd : D = 1
      · have := dig_pos L; lia
      · rw [dig_len (by lia)]; lia
    refine ⟨L, en n, 0, hs, by lia, by lia, by lia, ?_, ?_⟩
    · unfold expOf
      rw [lenL, if_neg (by lia)]; lia
    · intro f ⟨g1, ⟨k, g2⟩, g3⟩
      rw [hL, cp_int] at g2
      exact ⟨k, g2⟩
theorem gen_long {n : Int} {D : Nat} (hn : n.natAbs < 10 ^ 7) (h1 : 1 ≤ D) (h2 : D ≤ 12) (h : ¬ nfig n ≤ D) {f : Str} (hf : Strip (intText (lowOf n D)) f) : longText n D f = gi n D := by
  obtain ⟨m, E, _, hs, hD, hlt, hE, hx, hk⟩ := long_facts hn h1 h
  obtain ⟨k, hk⟩ := hk f hf
  have h0 : n ≠ 0 := by
    rintro rfl
    have := (nfig_le (n := 0) (k := 1) (by decide)).mpr (by decide)
    lia
  have := sci_text h0 hs hD hk hf.1 hf.2.2 hE hlt
  unfold gi
  rw [this]
  unfold longText lt
  rw [hx]
theorem strip_ex (t : List Nat) (h : t ≠ []) : ∃ f k, t = f ++ List.replicate k 48 ∧ 1 ≤ f.length ∧ (f.length = 1 ∨ ∀ d, f.getLast? = some d → d ≠ 48) := by
  induction hl : t.length using Nat.strongRecOn generalizing t with
  | _ l ih =>
    obtain ⟨a, d, rfl⟩ : ∃ a d, t = a ++ [d] := ⟨t.dropLast, t.getLast h, (List.dropLast_concat_getLast h).symm⟩
    by_cases hd : d = 48 ∧ a ≠ []
    · obtain ⟨rfl, ha⟩ := hd
      obtain ⟨f, k, e, g1, g2⟩ := ih a.length (by rw [← hl]; simp) a ha rfl
      exact ⟨f, k + 1, by rw [e, List.append_assoc]; congr 1; rw [List.replicate_succ'], g1, g2⟩
    · refine ⟨a ++ [d], 0, by simp, by simp, ?_⟩
      by_cases ha : a = []
      · left; rw [ha]; rfl
      · right; intro d' hd'; simp at hd'; subst hd'; exact fun z => hd ⟨z, ha⟩
theorem strOk_cp {x : Str} : PyData.strOk x = true ↔ ∀ c ∈ cp x, c < 0x110000 := by
  unfold PyData.strOk cp
  rw [← Array.all_toList, List.all_eq_true]
  exact ⟨fun h c hc => of_decide_eq_true (h c hc), fun h c hc => decide_eq_true (h c hc)⟩
theorem ok_gi {n : Int} {D : Nat} (hn : n.natAbs < 10 ^ 7) (h1 : 1 ≤ D) (h2 : D ≤ 12) : PyData.strOk (gi n D) = true := by
  rw [strOk_cp]
  have sd : ∀ c ∈ cp (side n), c < 0x110000 := fun c hc => by
    rw [cp_side] at hc; split at hc
    · rw [List.mem_singleton] at hc; lia
    · cases hc
  have dg : ∀ m, ∀ c ∈ dig m, c < 0x110000 := fun m c hc => by have := dig_all m c hc; lia
  by_cases h : nfig n ≤ D
  · rw [gen_short hn h1 h2 h]
    intro c hc
    rw [cp_app, cp_int] at hc
    rcases List.mem_append.mp hc with hc | hc
    · exact sd c hc
    · exact dg _ c hc
  · obtain ⟨m, E, _, hs, hD, hlt, hE, hx, hk⟩ := long_facts hn h1 h
    obtain ⟨fl, k, e, g1, g2⟩ := strip_ex (dig m) (by intro z; have := dig_pos m; rw [z] at this; simp at this)
    obtain ⟨f, rfl⟩ : ∃ f : Str, cp f = fl := ⟨⟨fl.toArray⟩, rfl⟩
    have h0 : n ≠ 0 := by
      rintro rfl
      have := (nfig_le (n := 0) (k := 1) (by decide)).mpr (by decide)
      lia
    have hg := sci_text h0 hs hD e (by rw [cp_len]; exact g1) (by rw [cp_len]; exact g2) hE hlt
    unfold gi
    rw [hg]
    obtain ⟨c, r, hc⟩ := cp_cons (x := f) (by rw [cp_len]; exact g1)
    rw [cp_lt hc]
    have hm := cp_dig_mem e
    rw [hc] at hm
    intro x hx
    rcases List.mem_append.mp hx with hx | hx
    · rcases List.mem_append.mp hx with hx | hx
      · rcases List.mem_append.mp hx with hx | hx
        · exact sd x hx
        · have := hm x (by rw [List.mem_singleton] at hx; rw [hx]; exact List.mem_cons_self); lia
      · split at hx
        · cases hx
        · rcases List.mem_cons.mp hx with hx | hx
          · lia
          · have := hm x (List.mem_cons_of_mem _ hx); lia
    · rcases List.mem_cons.mp hx with hx | hx
      · lia
      · rcases List.mem_cons.mp hx with hx | hx
        · lia
        · have e3 : (100 + (E : Int)) = ((100 + E : Nat) : Int) := by lia
          rw [e3, cp_from (by decide) (by rw [cp_len, cp_int]; have := dig_pos (100 + E); lia), cp_int] at hx
          exact dg _ x (List.mem_of_mem_drop hx)
noncomputable def sp_law : Spec := fun ds R => ∃ ns : List Int, ds = [.lst (nints ns)] ∧ ns.length ≤ 63 ∧ R (.ret (.bool true))
structure Fk (fl : List V) (F : Nat → Int) : Prop where
  len : fl.length = 24
  get : ∀ k, k < 24 → fl[k]? = some (.int (F k))
  b : ∀ k, 0 ≤ F k ∧ F k < 9699691
theorem Fk.of {fs : List Int} (hl : fs.length = 24) (hf : FlOk fs) : Fk (nints fs) (fun k => fs.getD k 0) := by
  refine ⟨by rw [nints_len, hl], fun k hk => ?_, fun k => ?_⟩
  · obtain ⟨x, hx⟩ := getE (l := fs) (i := k) (by lia)
    rw [nints_get hx, List.getD_eq_getElem?_getD, hx]; rfl
  · rw [List.getD_eq_getElem?_getD]
    cases h : fs[k]? with
    | none => exact ⟨by decide, by decide⟩
    | some x => exact hf x (List.mem_of_getElem? h)
theorem get_fl {fl : List V} {F : Nat → Int} (h : Fk fl F) {i : Int} {R : V → Prop} (h0 : 0 ≤ i ∧ i < 24) (q : R (.int (F i.toNat))) : getR (.lst fl) (.int i) R := get_l (by rw [h.len]; decide) h0.1 (h.get _ (by lia)) q
theorem get_pair {a b : V} {i : Int} {R : V → Prop} (h : 0 ≤ i ∧ i < 2) (q : R (if i = 0 then a else b)) : getR (.lst [a, b]) (.int i) R := by
  by_cases e : i = 0
  · subst e; exact get_l (by simp) (by lia) rfl q
  · obtain rfl : i = 1 := by lia
    exact get_l (by simp) (by lia) rfl q
theorem plains_map {α : Type} {f : α → V} (h : ∀ a, plain (f a) = true) : ∀ l : List α, plains (l.map f) = true
  | [] => rfl
  | a :: l => by rw [List.map_cons, plains, h a, plains_map h l]; rfl
theorem deeps_map {α : Type} {f : α → V} {k : Nat} (h : ∀ a, deep (f a) ≤ k) : ∀ l : List α, deeps (l.map f) ≤ k
  | [] => Nat.zero_le _
  | a :: l => by rw [List.map_cons, deeps]; exact Nat.max_le.mpr ⟨h a, deeps_map h l⟩
theorem flat_nints (l : List Int) : flat (.lst (nints l)) := ⟨by rw [plain]; exact plains_map (fun _ => by simp [plain]) l, by rw [deep]; have := deeps_map (f := V.int) (k := 0) (fun _ => by simp [deep]) l; unfold nints; lia⟩
theorem deep_iv (a : Int) : deep (iv a) ≤ 1 := by simp [deep, deeps]
theorem flat_ivs (l : List Int) : flat (.lst (l.map iv)) := ⟨by rw [plain]; exact plains_map (fun _ => by simp [plain, plains]) l, by rw [deep]; have := deeps_map (f := iv) (k := 1) deep_iv l; lia⟩
theorem any_int (x : Int) : ∀ ls : List Int, ((toPys (nints ls)).any fun y => PyData.eqv y (toPy (.int x))) = decide (x ∈ ls)
  | [] => by simp [nints, toPys]
  | a :: l => by
    rw [show nints (a :: l) = .int a :: nints l from rfl, toPys, List.any_cons, any_int x l]
    simp only [toPy, PyData.eqv, List.mem_cons, Bool.decide_or]
    congr 1
    rw [Bool.eq_iff_iff, beq_iff_eq, decide_eq_true_eq]; exact eq_comm
theorem cmp_notin {x : Int} {ls : List Int} {R : V → Prop} (q : R (.bool (decide (x ∉ ls)))) : cmpR .NotIn (.int x) (.lst (nints ls)) R := by
  refine .notinL ⟨⟨by simp [plain], by simp [deep]⟩, flat_nints ls⟩ ?_
  rw [any_int, ← decide_not]; exact q
theorem cmp_self {v : V} {R : V → Prop} (h : flat v) (q : R (.bool false)) : cmpR .NotEq v v R := by
  have e : PyData.eqv (toPy v) (toPy v) = true := SeqAt.eqv_refl _ (canLay_toPy v h.1).1
  exact .neD ⟨h, h⟩ (by rw [e]; exact q)
theorem whl_app (a b : List Num) : whl (a ++ b) = whl a ++ whl b := List.filterMap_append ..
theorem whl_ins {bs : List Num} {q : Num} (h : q.na = true) (k : Nat) : whl (bs.take k ++ q :: bs.drop k) = whl bs := by
  rw [whl_app, show whl (q :: bs.drop k) = whl (bs.drop k) by unfold whl; rw [List.filterMap_cons_none]; rw [if_pos h], ← whl_app, List.take_append_drop]
theorem whl_ivs : ∀ ls : List Int, whl (ls.map fun n => some (n, 1)) = ls
  | [] => rfl
  | n :: ls => by
    have := whl_ivs ls
    unfold whl at this ⊢
    rw [List.map_cons, List.filterMap_cons_some (b := n), this]
    rw [if_neg]; rfl; show ¬ decide _ = true; simp
theorem has_sorted (ls : List Int) : ∃ ss : List Int, ss.Perm ls ∧ ss.Pairwise (· ≤ ·) := by
  refine ⟨ls.mergeSort (fun a b => decide (a ≤ b)), List.mergeSort_perm .., ?_⟩
  have := List.pairwise_mergeSort (le := fun a b : Int => decide (a ≤ b)) (fun a b c h k => by simp only [decide_eq_true_eq] at *; lia) (fun a b => by simp only [Bool.or_eq_true, decide_eq_true_eq]; lia) ls
  exact this.imp fun h => of_decide_eq_true h
theorem sorted_one {ls ss ms : List Int} (hp : ss.Perm ls) (hs : ss.Pairwise (· ≤ ·)) (hq : ms.Perm ls) (ht : ms.Pairwise (· ≤ ·)) : ms = ss :=
  List.Perm.eq_of_pairwise (le := fun a b : Int => a ≤ b) (fun a b _ _ h k => by lia) ht hs (hq.trans hp.symm)
theorem b_srt {ls ss : List Int} {R : V → Prop} (h : ls.length < 64) (hp : ss.Perm ls) (hs : ss.Pairwise (· ≤ ·)) (q : R (.lst (nints ss))) : bltR .sorted [.lst (nints ls)] R := b_sorted h fun ms p s => by
  rw [sorted_one hp hs p s]; exact q
noncomputable def toIv : V → V | .int i => iv i | v => v
theorem map_iv (ls : List Int) : (nints ls).map toIv = ls.map iv := by simp only [nints, List.map_map]; rfl
theorem nvs_ivs (ls : List Int) : nvs (ls.map fun n => some (n, 1)) = ls.map iv := by simp only [nvs, List.map_map]; rfl
theorem ev_mid {c : Ctx} {X : Str → Prop} {σ : S} {Q : VPost} {e : Expr} (M : V → Prop) (h : EV c X e σ fun d σ₁ => σ₁ = σ ∧ M d) (k : ∀ d, M d → Q d σ) : EV c X e σ Q := fun s m P oa Φ E I p x =>
  h s m P oa Φ E I (fun v d σ' h' tk' m' P' I' g r q => p v d σ' h' tk' m' P' I' g r (by obtain ⟨rfl, q⟩ := q; exact k d q)) x
theorem call_written {n : Int} {D : Nat} {R : Res → Prop} (hn : n.natAbs < 10 ^ 7) (h1 : 1 ≤ D ∧ D ≤ 12) (h : R (.ret (.str (gi n D)))) : sp_law_written [.int n, .int D] R := by
  refine ⟨n, D, rfl, hn, h1.1, h1.2, ?_⟩
  split
  · rename_i z; rw [← gen_short hn h1.1 h1.2 z]; exact h
  · rename_i z; intro f hf; rw [gen_long hn h1.1 h1.2 z hf]; exact h
noncomputable def toW (d : Nat) : V → V | .int i => .str (gi i d) | v => v
noncomputable def wd (ss : List Int) (d : Nat) : List Str := ss.map fun n => gi n d
theorem map_w (ss : List Int) (d : Nat) : (nints ss).map (toW d) = sv (wd ss d) := by simp only [nints, sv, wd, List.map_map]; rfl
theorem wd_len (ss : List Int) (d : Nat) : (wd ss d).length = ss.length := List.length_map ..
noncomputable def prs (ss : List Int) : List (Int × Int) := ss.map fun n => (n, 1)
theorem prs_len (ss : List Int) : (prs ss).length = ss.length := List.length_map ..
theorem prs_v (ss : List Int) : (prs ss).map pv = ss.map iv := by simp only [prs, List.map_map]; rfl
theorem tx_wd (ss : List Int) (d : Nat) : tx (fun p => en p.1) (prs ss) d = wd ss d := by simp only [tx, prs, wd, List.map_map]; rfl
theorem ask_prs {ss : List Int} (h : ∀ x ∈ ss, x.natAbs < 10 ^ 7) : AskAll (fun p => en p.1) (prs ss) := fun p hp D h1 h2 => by
  obtain ⟨n, hn, rfl⟩ := List.mem_map.mp hp
  exact ask_int (h n hn) h1 h2
theorem EndAt.one {e : Int × Int → Nat} {ps : List (Int × Int)} {l d d' : Nat} (h : EndAt e ps l d) (h' : EndAt e ps l d') : d = d' := by
  obtain ⟨a1, a2, a3, a4⟩ := h
  obtain ⟨b1, b2, b3, b4⟩ := h'
  rcases Nat.lt_trichotomy d d' with q | q | q
  · have := b4 d a1 q
    rcases a3 with a3 | a3
    · lia
    · rw [a3] at this; cases this
  · exact q
  · have := a4 d' b1 q
    rcases b3 with b3 | b3
    · lia
    · rw [b3] at this; cases this
theorem rep7 {ss : List Int} (h : ∀ x ∈ ss, x.natAbs < 10 ^ 7) (nd : ss.Nodup) : rep (wd ss 7) = false := by
  refine List.any_eq_false.mpr fun i hi => ?_
  have hi := List.mem_range.mp hi
  rw [wd_len] at hi
  obtain ⟨a, ha⟩ := getE (l := ss) (i := i) (by lia)
  obtain ⟨b, hb⟩ := getE (l := ss) (i := i + 1) (by lia)
  have e1 : (wd ss 7)[i]? = some (gi a 7) := by rw [wd, List.getElem?_map, ha]; rfl
  have e2 : (wd ss 7)[i + 1]? = some (gi b 7) := by rw [wd, List.getElem?_map, hb]; rfl
  rw [e1, e2]
  intro z
  have z : gi a 7 = gi b 7 := by simpa using z
  have := gi_inj (h a (List.mem_of_getElem? ha)) (h b (List.mem_of_getElem? hb)) z
  subst this
  have := (List.getElem?_inj (by lia) nd).mp (ha.trans hb.symm)
  lia
theorem any_bool : ∀ {α : Type} (l : List α) (f : α → Bool), ((toPys (l.map fun a => V.bool (f a))).any fun y => PyData.eqv y (toPy (.bool true))) = l.any f
  | _, [], f => by simp [toPys]
  | _, a :: l, f => by
    rw [List.map_cons, toPys, List.any_cons, any_bool l f, List.any_cons]
    congr 1
    cases f a <;> simp [toPy, PyData.eqv]
theorem cmp_inb {α : Type} {l : List α} {f : α → Bool} {R : V → Prop} (q : R (.bool (l.any f))) : cmpR .In (.bool true) (.lst (l.map fun a => V.bool (f a))) R := by
  refine .inL ⟨⟨by simp [plain], by simp [deep]⟩, ⟨by rw [plain]; exact plains_map (fun _ => by simp [plain]) l, by rw [deep]; have := deeps_map (f := fun a => V.bool (f a)) (k := 0) (fun _ => by simp [deep]) l; lia⟩⟩ ?_
  rw [any_bool]; exact q
noncomputable def toR (l : List Str) : V → V | .int i => .bool (l[i.toNat]? == l[i.toNat + 1]?) | v => v
theorem map_r (l : List Str) (n : Nat) : (rng n).map (toR l) = (List.range n).map fun i => V.bool (l[i]? == l[i + 1]?) := by simp only [rng, List.map_map]; rfl
noncomputable def hdT (right low : Bool) (i : Nat) : Str := if right = true ∧ ¬ (low = true ∧ i = 0) then Str.ofString "(" else .ofString "["
noncomputable def tlT (right low : Bool) (i n : Nat) : Str := if right = true ∨ (low = true ∧ i + 2 = n) then Str.ofString "]" else .ofString ")"
theorem hdT_len (right low : Bool) (i : Nat) : (hdT right low i).length = 1 := by unfold hdT; split <;> decide +kernel
theorem tlT_len (right low : Bool) (i n : Nat) : (tlT right low i n).length = 1 := by unfold tlT; split <;> decide +kernel
theorem lab_eq {l : List Str} {right low : Bool} {i : Nat} {a b : Str} (ha : l[i]? = some a) (hb : l[i + 1]? = some b) : lab l right low i = hdT right low i ++ a ++ .ofString "," ++ b ++ tlT right low i l.length := by
  unfold lab hdT tlT
  rw [List.getD_eq_getElem?_getD, List.getD_eq_getElem?_getD, ha, hb]; rfl
theorem strOk_app {x y : Str} (h : PyData.strOk x = true) (k : PyData.strOk y = true) : PyData.strOk (x ++ y) = true := by
  unfold PyData.strOk at *
  rw [Str.cps_append, Array.all_append, h, k]; rfl
theorem flat_svs {l : List Str} (h : ∀ x ∈ l, PyData.strOk x = true) : flat (.lst (sv l)) := by
  constructor
  · rw [plain]
    induction l with
    | nil => rfl
    | cons a l ih =>
      rw [show sv (a :: l) = .str a :: sv l from rfl, plains, ih fun x hx => h x (List.mem_cons_of_mem _ hx)]
      have := h a List.mem_cons_self
      simp [plain, this]
  · rw [deep]; have := deeps_map (f := V.str) (k := 0) (fun _ => by simp [deep]) l; unfold sv; lia
theorem ok_labs {l : List Str} {right low : Bool} (h : ∀ x ∈ l, PyData.strOk x = true) : ∀ x ∈ labs l right low, PyData.strOk x = true := by
  intro x hx
  obtain ⟨i, hi, rfl⟩ := List.mem_map.mp hx
  have hi := List.mem_range.mp hi
  obtain ⟨a, ha⟩ := getE (l := l) (i := i) (by lia)
  obtain ⟨b, hb⟩ := getE (l := l) (i := i + 1) (by lia)
  rw [lab_eq ha hb]
  refine strOk_app (strOk_app (strOk_app (strOk_app ?_ (h a (List.mem_of_getElem? ha))) (by decide +kernel)) (h b (List.mem_of_getElem? hb))) ?_
  · unfold hdT; split <;> decide +kernel
  · unfold tlT; split <;> decide +kernel
theorem rep_cl {k D : Nat} (h1 : 13 ≤ k) (h2 : k ≤ 16) (h3 : 1 ≤ D) (h4 : D ≤ 12) : rep (tx (fun _ => 0) (cl k) D) = true := by
  have h := cl_text h1 h2 h3 h4
  have e : tx (fun _ => 0) (cl k) D = [.ofString "1", .ofString "1", .ofString "1"] := by
    unfold tx
    rw [List.map_congr_left h]; rfl
  rw [e]; decide +kernel
noncomputable def xs0 : List Num := [some (3, 1), none, some (0, 0), some (1, 0), some (8, 1)]
noncomputable def xs1 : List Num := [some (3, 1), none, some (0, 0), some (-1, 0), some (8, 1)]
noncomputable def xs2 : List Num := [some (3, 1), none, some (0, 0), some (-1, 0), some (8, 1), some (1, 0)]
noncomputable def xs3 : List Num := [some (1, 0), some (1, 0)]
theorem rng_of {xs : List Num} {lo hi : Pr} (h1 : xs.length ≤ 1000) (h2 : (xs.all fun q => match q with | none => true | some p => decide (p.2.natAbs < 2 ^ 60)) = true) (h3 : xs.foldl rstep none = some (lo, hi)) (h4 : lo.2 = 0 ∨ hi.2 = 0) : Rng xs lo hi :=
  ⟨h1, fun q hq p e => by subst e; exact of_decide_eq_true (p := p.2.natAbs < 2 ^ 60) (List.all_eq_true.mp h2 _ hq), h3, h4⟩
theorem rng0 : Rng xs0 (3, 1) (1, 0) := rng_of (by decide) (by decide +kernel) (by decide +kernel) (by decide)
theorem rng1 : Rng xs1 (-1, 0) (8, 1) := rng_of (by decide) (by decide +kernel) (by decide +kernel) (by decide)
theorem rng2 : Rng xs2 (-1, 0) (1, 0) := rng_of (by decide) (by decide +kernel) (by decide +kernel) (by decide)
theorem rng3 : Rng xs3 (1, 0) (1, 0) := rng_of (by decide) (by decide +kernel) (by decide +kernel) (by decide)
theorem ite_iT {t : Bool} {A B : Prop} (h : t = true) (q : A) : if t = true then A else B := by rw [if_pos h]; exact q
theorem ite_iF {t : Bool} {A B : Prop} (h : t = false) (q : B) : if t = true then A else B := by rw [h, if_neg (by decide)]; exact q
section
local macro_rules | `(tactic| wtm_at "xev") => `(tactic| (with_reducible apply ev_ifs))
local macro_rules | `(tactic| wtm_at "xgx") => `(tactic| (repeat (first | wtm_at "xpt" | with_reducible refine ite_iT (by decide) ?_ | with_reducible refine ite_iF (by decide) ?_)))
section
variable {prog : Program} {w : World} {base : Heap} {mg mb : Str → Option Value} (G : Grd prog w (K39 w.params) base mg mb)
include G
set_option maxHeartbeats 4000000 in
theorem ok_law : FnOk false prog w base 13 420 sp_law := by
  have ho : (K39 w.params).lookup 420 = some ⟨_, _, .func (fnOf _ _ _ _ _ _ _ _ _ _ _ _), _⟩ := rfl
  refine fn_go G ho (by kernel_rfl) [.ofString "script"] [.ofString "script", .ofString "flakes", .ofString "there", .ofString "each", .ofString "size_now", .ofString "one", .ofString "cutting", .ofString "due", .ofString "least", .ofString "right", .ofString "closed", .ofString "head", .ofString "tail", .ofString "near", .ofString "close_ones", .ofString "low_end", .ofString "xs"] [.ofString "digits", .ofString "words"] [.ofString "_law_flakes", .ofString "range", .ofString "len", .ofString "sorted", .ofString "_law_asked", .ofString "cut_labels"] (len_1 fun _ s X => BindsTo.of_eq rfl) (by kernel_rfl) (by decide +kernel) (by kernel_rfl) [(.ofString "_law_flakes", true, sp_law_flakes), (.ofString "_law_asked", false, sp_law_asked), (.ofString "cut_labels", true, sp_cut_labels), (.ofString "_law_written", true, sp_law_written)] (tbl_cons (ok_law_flakes G) (by decide) (by kernel_rfl) rfl rfl (tbl_cons (ok_law_asked G) (by decide) (by kernel_rfl) rfl rfl (tbl_cons (ok_cut_labels G) (by decide) (by kernel_rfl) rfl rfl (tbl_cons (ok_law_written G) (by decide) (by kernel_rfl) rfl rfl trivial)))) (fun ds R hsp => ?_)
  clear ho
  obtain ⟨ns, rfl, hz, hR⟩ := hsp
  refine ⟨rfl, fun c O N B hhi hlv hfn hD => ?_⟩
  have hf0 : c.fn (.ofString "_law_flakes") = some (true, sp_law_flakes) := (hfn _).trans (by kernel_rfl)
  have hf1 : c.fn (.ofString "_law_asked") = some (false, sp_law_asked) := (hfn _).trans (by kernel_rfl)
  have hf2 : c.fn (.ofString "cut_labels") = some (true, sp_cut_labels) := (hfn _).trans (by kernel_rfl)
  have hf3 : c.fn (.ofString "_law_written") = some (true, sp_law_written) := (hfn _).trans (by kernel_rfl)
  simp only [List.zip_cons_cons, List.zip_nil_left]
  obtain ⟨D, hD'⟩ := hD
  wtm_at "xgo"
  refine ⟨ns, rfl, hz, fun fs hl hf => ?_⟩
  obtain ⟨F, H⟩ : ∃ F, Fk (nints fs) F := ⟨_, Fk.of hl hf⟩
  generalize nints fs = fl at H
  have b0 := H.b 0
  wtm_at "xgo"
  refine get_fl H (by decide) ?_
  wtm_at "xgo"
  have b0 := H.b 0
  refine ⟨by lia, fun i σ => ∃ ls : List Int, σ = ⟨[(.ofString "script", .lst (nints ns)), (.ofString "flakes", .lst fl)], some (.ofString "there", nints ls)⟩ ∧ ls.Nodup ∧ (∀ x ∈ ls, x.natAbs < 10 ^ 7) ∧ ls.length ≤ i ∧ (0 < i → 0 < ls.length) ∧ i ≤ 5, _, by wtm_at "xsub", ⟨[], rfl, .nil, (fun _ h => nomatch h), Nat.le_refl _, (fun h => absurd h (by decide)), by decide⟩, ?_, ?_⟩
  · intro ch Oh Nh hK hfn' hlv' ii d σ₂ hd
    have Bh : Bui ch.K := hK ▸ B
    rw [← hlv'] at hlv
    rw [← hfn'] at hf0
    rw [← hfn'] at hf1
    rw [← hfn'] at hf2
    rw [← hfn'] at hf3
    rintro ⟨ls, rfl, nd, hs, hl, hl', h5⟩
    obtain ⟨hi, rfl⟩ := rng_get hd
    have e1 := nints_len ls
    wtm_at "xgh"
    refine get_fl H (by lia) ?_
    wtm_at "xgh"
    have b1 := H.b (1 + (ii : Int)).toNat
    refine bin_pow (by lia) ?_
    have z := p10 (k := 1 + F (1 + (ii : Int)).toNat % 7) (by lia)
    have z2 : (10 : Int) ^ (1 + F (1 + (ii : Int)).toNat % 7).toNat ≤ 10 ^ 7 := p10_mono (by lia)
    generalize (10 : Int) ^ (1 + F (1 + (ii : Int)).toNat % 7).toNat = sz at z z2
    wtm_at "xgh"
    refine get_fl H (by lia) ?_
    wtm_at "xgh"
    refine get_fl H (by lia) ?_
    wtm_at "xgh"
    have m0 : 0 ≤ F (6 + (ii : Int)).toNat % sz := Int.emod_nonneg _ (by lia)
    have m1 : F (6 + (ii : Int)).toNat % sz < sz := Int.emod_lt_of_pos _ z.1
    generalize F (6 + (ii : Int)).toNat % sz = q at m0 m1
    refine ite_beq (fun _ => ?_) fun _ => ?_
    all_goals
      wtm_at "xgh"
      refine ss_if0 (eb_of_ev rfl (ev_own_notin Oh (by decide +kernel) ?_))
      wtm_at "xgh"
      refine cmp_notin ?_
      wtm_at "xgh"
      refine ite_dec (fun hn => ?_) fun hn => ?_
      · wtm_at "xgh"
        rw [show ∀ x, nints ls ++ [V.int x] = nints (ls ++ [x]) by intro x; simp [nints]]
        refine flQ_next _ (by wtm_at "xsub") ⟨_, rfl, ?_, ?_, by simp; lia, fun _ => by simp, by lia⟩
        · exact List.nodup_append.mpr ⟨nd, List.pairwise_singleton .., fun a ha b hb e => hn (by rw [List.mem_singleton] at hb; rw [← hb, ← e]; exact ha)⟩
        · intro x hx
          rcases List.mem_append.mp hx with hx | hx
          · exact hs x hx
          · rw [List.mem_singleton] at hx; lia
      · wtm_at "xgh"
        exact flQ_next _ (by wtm_at "xsub") ⟨_, rfl, nd, hs, by lia, (fun _ => by have hn := Decidable.not_not.mp hn; exact List.length_pos_of_mem hn), by lia⟩
  rintro σ₂ ⟨ls, rfl, nd, hs, hl, hl', h5⟩
  rw [rng_len] at hl hl' h5
  have hl' := hl' (by lia)
  have e1 := nints_len ls
  refine ss_map_own O [] (by wtm_at "xcn") rfl (by wtm_at "xsw") (by wtm_at "xloc") ?_
  unfold MapOk
  wtm_at "xgh"
  refine ⟨toIv, ?_, rfl, ?_⟩
  · rintro ci Oi ⟨Ca, hh, PP, hci⟩ hK' hfn' hlv' d hd
    have Ni : NF' ci [.ofString "one"] [] [] := by subst hci; subst hD'; exact NF'.inn (by kernel_rfl) (fun _ => rfl)
    have Bi : Bui ci.K := hK' ▸ B
    rw [← hlv'] at hlv
    rw [← hfn'] at hf0
    rw [← hfn'] at hf1
    rw [← hfn'] at hf2
    rw [← hfn'] at hf3
    (try simp only [S.put, setV, ofStr_beq, String.reduceBEq, Bool.false_eq_true, if_false, if_true, ↓reduceIte]); simp only [inS, List.filter_cons, List.filter_nil, List.lookup_cons, List.lookup_nil, ofStr_beq, String.reduceBEq, Option.isSome_some, Option.isSome_none, Bool.false_eq_true, if_false, if_true, ↓reduceIte, setV]
    obtain ⟨x, hx, rfl⟩ := List.mem_map.mp hd
    wtm_at "xgo"
    rfl
  rw [show (nints ls).map toIv = nvs (ls.map fun n => some (n, 1)) from (map_iv ls).trans (nvs_ivs ls).symm]
  have b11 := H.b 11
  wtm_at "xgh"
  refine get_fl H (by decide) ?_
  wtm_at "xgh"
  refine ⟨by lia, fun i σ => ∃ bs : List Num, σ = ⟨[(.ofString "flakes", .lst fl), (.ofString "there", .lst (nints ls))], some (.ofString "cutting", nvs bs)⟩ ∧ whl bs = ls ∧ (∀ q ∈ bs, q.na = true ∨ ∃ n : Int, q = some (n, 1)) ∧ bs.length = ls.length + i ∧ i ≤ 3, _, by wtm_at "xsub",
    ⟨_, rfl, whl_ivs ls, (fun q hq => by obtain ⟨n, _, rfl⟩ := List.mem_map.mp hq; exact .inr ⟨n, rfl⟩), by simp, by decide⟩, ?_, ?_⟩
  · intro ch Oh Nh hK hfn' hlv' ii d σ₂ hd
    have Bh : Bui ch.K := hK ▸ B
    rw [← hlv'] at hlv
    rw [← hfn'] at hf0
    rw [← hfn'] at hf1
    rw [← hfn'] at hf2
    rw [← hfn'] at hf3
    rintro ⟨bs, rfl, hw, hq, hbl, h3⟩
    obtain ⟨hi, rfl⟩ := rng_get hd
    have e2 := nvs_len bs
    have b12 := H.b (12 + (ii : Int)).toNat
    wtm_at "xgh"
    refine get_fl H (by lia) ?_
    wtm_at "xgh"
    have m0 : 0 ≤ F (12 + (ii : Int)).toNat % ((nvs bs).length + 1) := Int.emod_nonneg _ (by lia)
    have m1 : F (12 + (ii : Int)).toNat % ((nvs bs).length + 1) < (nvs bs).length + 1 := Int.emod_lt_of_pos _ (by lia)
    refine get_fl H (by lia) ?_
    wtm_at "xgh"
    refine get_pair (by lia) ?_
    wtm_at "xgh"
    refine l_insert (by lia) ?_
    generalize F (12 + (ii : Int)).toNat % ((nvs bs).length + 1) = m at m0 m1
    obtain ⟨q, eq, hqn⟩ : ∃ q : Num, (if F (12 + (ii : Int)).toNat % 2 = 0 then V.none else .tup [.int 0, .int 0]) = q.v ∧ q.na = true := by
      split
      · exact ⟨none, rfl, rfl⟩
      · exact ⟨some (0, 0), rfl, rfl⟩
    rw [eq, show (nvs bs).take m.toNat ++ q.v :: (nvs bs).drop m.toNat = nvs (bs.take m.toNat ++ q :: bs.drop m.toNat) by simp [nvs, List.map_take, List.map_drop]]
    wtm_at "xgh"
    refine flQ_next _ (by wtm_at "xsub") ⟨_, rfl, by rw [whl_ins hqn]; exact hw, ?_, by simp; lia, by lia⟩
    intro p hp
    rcases List.mem_append.mp hp with hp | hp
    · exact hq p (List.mem_of_mem_take hp)
    · rcases List.mem_cons.mp hp with rfl | hp
      · exact .inl hqn
      · exact hq p (List.mem_of_mem_drop hp)
  rintro σ₂ ⟨bs, rfl, hw, hq, hbl, h3⟩
  rw [rng_len] at hbl h3
  have e2 := nvs_len bs
  have hi0 := hhi rfl
  obtain ⟨ss, hp, hss⟩ := has_sorted ls
  have el := hp.length_eq
  have es := nints_len ss
  refine ss_freeze ?_
  refine ss_ifm (fun σ => σ = ⟨[(.ofString "flakes", .lst fl), (.ofString "there", .lst (nints ls))], none⟩) ?_ ?_
  · wtm_at "xgh"
    refine ite_dec (fun hc => ?_) fun hc => ?_
    · refine ss_assign O rfl (by wtm_at "xbnd") ?_
      refine ev_if ?_
      wtm_at "xgh"
      refine ite_dec (fun hd => ?_) fun hd => ?_
      · wtm_at "xgh"
        refine ss_if0 ?_
        wtm_at "xgh"
        refine .inr (.inr ⟨_, bs, rfl, by lia, by lia, hq, by rw [hw]; exact nd, ?_⟩)
        rw [if_pos (by rw [hw]; lia)]
        wtm_at "xgh"
        refine ite_bne (fun h => absurd rfl h) fun _ => ?_
        wtm_at "xgh"
        exact midQ_next _ (by wtm_at "xsub") rfl
      · refine ev_map O [] ?N ?hs ?_
        case N => wtm_at "xcn"
        case hs => rfl
        unfold MapOk
        wtm_at "xgh"
        refine b_srt (by lia) hp hss ?_
        wtm_at "xgh"
        refine ⟨toIv, ?_, ?_⟩
        · rintro ci Oi ⟨Ca, hh, PP, hci⟩ hK' hfn' hlv' d hd
          have Ni : NF' ci [.ofString "one"] [] [] := by subst hci; subst hD'; exact NF'.inn (by kernel_rfl) (fun _ => rfl)
          have Bi : Bui ci.K := hK' ▸ B
          rw [← hlv'] at hlv
          rw [← hfn'] at hf0
          rw [← hfn'] at hf1
          rw [← hfn'] at hf2
          rw [← hfn'] at hf3
          (try simp only [S.put, setV, ofStr_beq, String.reduceBEq, Bool.false_eq_true, if_false, if_true, ↓reduceIte]); simp only [inS, List.filter_cons, List.filter_nil, List.lookup_cons, List.lookup_nil, ofStr_beq, String.reduceBEq, Option.isSome_some, Option.isSome_none, Bool.false_eq_true, if_false, if_true, ↓reduceIte, setV]
          obtain ⟨x, hx, rfl⟩ := List.mem_map.mp hd
          wtm_at "xgo"
          rfl
        rw [map_iv]
        wtm_at "xgh"
        refine ss_if0 ?_
        wtm_at "xgh"
        refine .inr (.inr ⟨_, bs, rfl, by lia, by lia, hq, by rw [hw]; exact nd, ?_⟩)
        rw [if_neg (by rw [hw]; lia)]
        intro ms pm sm
        rw [hw] at pm
        rw [sorted_one hp hss pm sm]
        wtm_at "xgh"
        refine cmp_self (flat_ivs ss) ?_
        wtm_at "xgh"
        exact midQ_next _ (by wtm_at "xsub") rfl
    · wtm_at "xgh"
      exact midQ_next _ (by wtm_at "xsub") rfl
  clear hq hbl h3 e2 hw bs
  rintro σ rfl
  refine ss_if0 ?_
  wtm_at "xgh"
  refine .inl ⟨_, none, rfl, rfl, ?_⟩
  wtm_at "xgh"
  refine ite_bne (fun h => absurd rfl h) fun _ => ?_
  wtm_at "xgh"
  refine .inl ⟨_, some (0, 0), rfl, by decide, ?_⟩
  wtm_at "xgh"
  refine ite_bne (fun h => absurd rfl h) fun _ => ?_
  wtm_at "xgh"
  refine ss_ifm (fun σ => σ = ⟨[(.ofString "flakes", .lst fl)], none⟩) ?_ ?_
  · wtm_at "xgh"
    refine ite_dec (fun hc => ?_) fun hc => ?_
    · have sss : ∀ x ∈ ss, x.natAbs < 10 ^ 7 := fun x hx => hs x (hp.mem_iff.mp hx)
      have nds : ss.Nodup := hp.nodup_iff.mpr nd
      have b14 := H.b 14
      wtm_at "xgh"
      refine get_fl H (by decide) ?_
      wtm_at "xgh"
      obtain ⟨ls0, e0⟩ : ∃ l0 : Nat, (l0 : Int) = 1 + F (Int.toNat 14) % 5 := ⟨(1 + F (Int.toNat 14) % 5).toNat, by lia⟩
      rw [← e0]
      have l1 : 1 ≤ ls0 ∧ ls0 ≤ 5 := by lia
      clear e0
      refine ss_mapc O [(.ofString "digits", D.L + 1)] (by wtm_at "xcn") rfl (by wtm_at "xsw") (by wtm_at "xbnd") ?_
      unfold MapOk
      wtm_at "xgh"
      refine b_srt (by lia) hp hss ?_
      wtm_at "xgh"
      refine ⟨toW ls0, ?_, ?_⟩
      · rintro ci Oi ⟨Ca, hh, PP, hci⟩ hK' hfn' hlv' d hd
        have Ni : NF' ci [.ofString "one"] [] [.ofString "_law_written"] := by subst hci; subst hD'; exact NF'.inn (by kernel_rfl) (fun _ => rfl)
        have Bi : Bui ci.K := hK' ▸ B
        rw [← hlv'] at hlv
        rw [← hfn'] at hf0
        rw [← hfn'] at hf1
        rw [← hfn'] at hf2
        rw [← hfn'] at hf3
        (try simp only [S.put, setV, ofStr_beq, String.reduceBEq, Bool.false_eq_true, if_false, if_true, ↓reduceIte]); simp only [inS, List.filter_cons, List.filter_nil, List.lookup_cons, List.lookup_nil, ofStr_beq, String.reduceBEq, Option.isSome_some, Option.isSome_none, Bool.false_eq_true, if_false, if_true, ↓reduceIte, setV]
        obtain ⟨x, hx, rfl⟩ := List.mem_map.mp hd
        wtm_at "xgo"
        refine call_written (sss x hx) (by lia) ?_
        wtm_at "xgo"
        rfl
      rw [map_w]
      wtm_at "xgh"
      show SS _ _ _ _ _
      wtm_at "xgh"
      refine ss_while (fun m σ => ∃ d : Nat, σ = ⟨[(.ofString "flakes", .lst fl), (.ofString "there", .lst (nints ls)), (.ofString "least", .int ls0), (.ofString "digits", .int d), (.ofString "words", .lst (sv (wd ss d)))], none⟩ ∧ m + d = 7 ∧ ls0 ≤ d ∧ ∀ k, ls0 ≤ k → k < d → rep (wd ss k) = true)
        (7 - ls0) _ (by wtm_at "xsub") ⟨ls0, rfl, by lia, Nat.le_refl _, fun k a b => by lia⟩ ?_
      rintro m σ ⟨d, rfl, hm, hdl, hk⟩
      have ew := sv_len (wd ss d)
      have ew2 := wd_len ss d
      wtm_at "xgh"
      refine ev_map O [(.ofString "words", D.L + 2)] ?N ?hs ?_
      case N => wtm_at "xcn"
      case hs => rfl
      unfold MapOk
      wtm_at "xgh"
      refine ⟨by lia, by rw [rng_len]; lia, toR (wd ss d), ?_, ?_⟩
      · rintro ci Oi ⟨Ca, hh, PP, hci⟩ hK' hfn' hlv' d hd
        have Ni : NF' ci [.ofString "each"] [] [] := by subst hci; subst hD'; exact NF'.inn (by kernel_rfl) (fun _ => rfl)
        have Bi : Bui ci.K := hK' ▸ B
        rw [← hlv'] at hlv
        rw [← hfn'] at hf0
        rw [← hfn'] at hf1
        rw [← hfn'] at hf2
        rw [← hfn'] at hf3
        (try simp only [S.put, setV, ofStr_beq, String.reduceBEq, Bool.false_eq_true, if_false, if_true, ↓reduceIte]); simp only [inS, List.filter_cons, List.filter_nil, List.lookup_cons, List.lookup_nil, ofStr_beq, String.reduceBEq, Option.isSome_some, Option.isSome_none, Bool.false_eq_true, if_false, if_true, ↓reduceIte, setV]
        obtain ⟨j, hj, rfl⟩ := List.mem_map.mp hd
        have hj' := List.mem_range.mp hj
        obtain ⟨a, ha⟩ := getE (l := wd ss d) (i := j) (by lia)
        obtain ⟨b, hb⟩ := getE (l := wd ss d) (i := j + 1) (by lia)
        wtm_at "xgh"
        refine get_l (by lia) (by lia) (sv_get ha) ?_
        wtm_at "xgh"
        refine get_l (by lia) (by lia) (sv_get hb) ?_
        wtm_at "xgh"
        show _ = V.bool ((wd ss d)[j]? == (wd ss d)[j + 1]?)
        rw [ha, hb]; rfl
      rw [map_r]
      refine cmp_inb ?_
      rw [show (((sv (wd ss d)).length : Int) - 1).toNat = (wd ss d).length - 1 by lia]
      rw [show (List.range ((wd ss d).length - 1)).any (fun i => (wd ss d)[i]? == (wd ss d)[i + 1]?) = rep (wd ss d) from rfl]
      wtm_at "xgh"
      refine ite_b (fun hr => ?_) fun hr => ?_
      · have d7 : d < 7 := by
          rcases Nat.lt_or_ge d 7 with z | z
          · exact z
          · obtain rfl : d = 7 := by lia
            rw [rep7 sss nds] at hr; cases hr
        wtm_at "xgh"
        refine ss_mapc O [(.ofString "digits", D.L + 1)] (by wtm_at "xcn") rfl (by wtm_at "xsw") (by wtm_at "xbnd") ?_
        unfold MapOk
        wtm_at "xgh"
        refine b_srt (by lia) hp hss ?_
        wtm_at "xgh"
        refine ⟨toW (d + 1), ?_, ?_⟩
        · rintro ci Oi ⟨Ca, hh, PP, hci⟩ hK' hfn' hlv' d hd
          have Ni : NF' ci [.ofString "one"] [] [.ofString "_law_written"] := by subst hci; subst hD'; exact NF'.inn (by kernel_rfl) (fun _ => rfl)
          have Bi : Bui ci.K := hK' ▸ B
          rw [← hlv'] at hlv
          rw [← hfn'] at hf0
          rw [← hfn'] at hf1
          rw [← hfn'] at hf2
          rw [← hfn'] at hf3
          (try simp only [S.put, setV, ofStr_beq, String.reduceBEq, Bool.false_eq_true, if_false, if_true, ↓reduceIte]); simp only [inS, List.filter_cons, List.filter_nil, List.lookup_cons, List.lookup_nil, ofStr_beq, String.reduceBEq, Option.isSome_some, Option.isSome_none, Bool.false_eq_true, if_false, if_true, ↓reduceIte, setV]
          obtain ⟨x, hx, rfl⟩ := List.mem_map.mp hd
          wtm_at "xgo"
          refine call_written (D := d + 1) (sss x hx) (by lia) ?_
          wtm_at "xgo"
          rfl
        rw [map_w]
        show SS _ _ _ _ _
        wtm_at "xgh"
        refine wlQ_next _ (m - 1) (by wtm_at "xsub") (by lia) ⟨d + 1, rfl, by lia, by lia, fun k a b => ?_⟩
        rcases Nat.lt_succ_iff_lt_or_eq.mp b with b | rfl
        · exact hk k a b
        · exact hr
      have ea : EndAt (fun p => en p.1) (prs ss) ls0 d := ⟨hdl, by lia, .inr (by rw [tx_wd]; exact hr), fun k a b => by rw [tx_wd]; exact hk k a b⟩
      wtm_at "xgh"
      refine get_fl H (by decide) ?_
      wtm_at "xgh"
      refine get_fl H (by decide) ?_
      wtm_at "xgh"
      generalize (F (Int.toNat 15) % 2 == 1) = right
      generalize (F (Int.toNat 16) % 2 == 1) = low
      have k1 := @hdT_len right low
      have k2 := @tlT_len right low
      have kc : (Str.ofString ",").length = 1 := by decide +kernel
      have sh : ∀ t ∈ wd ss d, t.length ≤ 200 := by rw [← tx_wd]; exact tx_short (ask_prs sss) (by lia) (by lia)
      refine ⟨by lia, fun i σ => σ = ⟨[(.ofString "flakes", .lst fl), (.ofString "there", .lst (nints ls)), (.ofString "least", .int ls0), (.ofString "digits", .int d), (.ofString "words", .lst (sv (wd ss d))), (.ofString "right", .bool right), (.ofString "closed", .bool low)],
        some (.ofString "due", sv ((List.range i).map (lab (wd ss d) right low)))⟩ ∧ i ≤ 1000, _, by wtm_at "xsub", ⟨rfl, by decide⟩, ?_, ?_⟩
      · intro ch Oh Nh hK hfn' hlv' ii d σ₂ hd
        have Bh : Bui ch.K := hK ▸ B
        rw [← hlv'] at hlv
        rw [← hfn'] at hf0
        rw [← hfn'] at hf1
        rw [← hfn'] at hf2
        rw [← hfn'] at hf3
        rintro ⟨rfl, hi'⟩
        obtain ⟨hi, rfl⟩ := rng_get hd
        obtain ⟨a, ha⟩ := getE (l := wd ss d) (i := ii) (by lia)
        obtain ⟨b, hb⟩ := getE (l := wd ss d) (i := ii + 1) (by lia)
        have la := sh a (List.mem_of_getElem? ha)
        have lb := sh b (List.mem_of_getElem? hb)
        have e4 : (sv ((List.range ii).map (lab (wd ss d) right low))).length = ii := by rw [sv_len, List.length_map, List.length_range]
        have k1 := k1 ii
        have k2 := k2 ii (wd ss d).length
        refine ss_assign Oh rfl (by wtm_at "xbnd") ?_
        refine ev_mid (fun v => v = .str (hdT right low ii)) ?_ ?_
        · wtm_at "xall"
          all_goals
            refine ⟨rfl, congrArg V.str ?_⟩
            unfold hdT
            simp_all
        rintro _ rfl
        refine ss_assign Oh rfl (by wtm_at "xbnd") ?_
        refine ev_mid (fun v => v = .str (tlT right low ii (wd ss d).length)) ?_ ?_
        · wtm_at "xall"
          all_goals
            refine ⟨rfl, congrArg V.str ?_⟩
            unfold tlT
            simp only [if_true, Bool.false_eq_true, if_false]
            first | rw [if_pos (Or.inl (by assumption))] | rw [if_pos (Or.inr ⟨by assumption, by lia⟩)] | rw [if_neg (by rintro (h | ⟨h1, h2⟩) <;> first | lia | simp_all)]
        rintro _ rfl
        wtm_at "xgh"
        refine get_l (by lia) (by lia) (sv_get ha) ?_
        wtm_at "xgh"
        refine get_l (by lia) (by lia) (sv_get hb) ?_
        wtm_at "xgh"
        rw [← lab_eq ha hb, show sv ((List.range ii).map (lab (wd ss d) right low)) ++ [V.str (lab (wd ss d) right low ii)] = sv ((List.range (ii + 1)).map (lab (wd ss d) right low)) by rw [List.range_succ]; simp [sv]]
        exact flQ_next _ (by wtm_at "xsub") ⟨rfl, by lia⟩
      rintro σ₂ ⟨rfl, hi'⟩
      rw [rng_len, show (((sv (wd ss d)).length : Int) - 1).toNat = (wd ss d).length - 1 by lia]
      refine ss_if0 ?_
      wtm_at "xgh"
      refine ev_map O [] ?N ?hs ?_
      case N => wtm_at "xcn"
      case hs => rfl
      unfold MapOk
      wtm_at "xgh"
      refine b_srt (by lia) hp hss ?_
      wtm_at "xgh"
      refine ⟨toIv, ?_, ?_⟩
      · rintro ci Oi ⟨Ca, hh, PP, hci⟩ hK' hfn' hlv' d hd
        have Ni : NF' ci [.ofString "one"] [] [] := by subst hci; subst hD'; exact NF'.inn (by kernel_rfl) (fun _ => rfl)
        have Bi : Bui ci.K := hK' ▸ B
        rw [← hlv'] at hlv
        rw [← hfn'] at hf0
        rw [← hfn'] at hf1
        rw [← hfn'] at hf2
        rw [← hfn'] at hf3
        (try simp only [S.put, setV, ofStr_beq, String.reduceBEq, Bool.false_eq_true, if_false, if_true, ↓reduceIte]); simp only [inS, List.filter_cons, List.filter_nil, List.lookup_cons, List.lookup_nil, ofStr_beq, String.reduceBEq, Option.isSome_some, Option.isSome_none, Bool.false_eq_true, if_false, if_true, ↓reduceIte, setV]
        obtain ⟨x, hx, rfl⟩ := List.mem_map.mp hd
        wtm_at "xgo"
        rfl
      rw [map_iv, ← prs_v]
      show EL _ _ _ _ _ _
      wtm_at "xgh"
      refine ⟨fun p => en p.1, prs ss, ls0, right, low, rfl, by rw [prs_len]; lia, by rw [prs_len]; lia, by lia, by lia, ask_prs sss, fun D' hD2 => ?_⟩
      rw [hD2.one ea, tx_wd, if_neg (by rw [hr]; decide)]
      wtm_at "xgh"
      refine cmp_self (flat_svs (ok_labs fun x hx => ?_)) ?_
      · obtain ⟨n, hn, rfl⟩ := List.mem_map.mp hx
        exact ok_gi (sss n hn) (by lia) (by lia)
      wtm_at "xgh"
      exact midQ_next _ (by wtm_at "xsub") rfl
    · wtm_at "xgh"
      exact midQ_next _ (by wtm_at "xsub") rfl
  rintro σ rfl
  have b17 := H.b 17
  wtm_at "xgh"
  refine get_fl H (by decide) ?_
  wtm_at "xgh"
  refine bin_pow (by lia) ?_
  generalize hk : (13 + F (Int.toNat 17) % 4).toNat = k
  have hk2 : 13 ≤ k ∧ k ≤ 16 := by lia
  have z10 : (0 : Int) < 10 ^ k := Int.pow_pos (by decide)
  wtm_at "xgo"
  refine get_fl H (by decide) ?_
  wtm_at "xgh"
  refine ⟨fun _ => 0, cl k, 3, true, _, rfl, (show 2 ≤ 3 by decide), (show 3 ≤ 1000 by decide), by decide, by decide, fun p hp D h1 h2 => cl_ask hk2.1 hk2.2 h1 h2 p hp, fun D' hD2 => ?_⟩
  rw [rep_cl hk2.1 hk2.2 (by have := hD2.1; lia) hD2.2.1, if_pos rfl]
  wtm_at "xgh"
  rw [show (List.range ((cl k).length - 1)).map (fun j : Nat => V.str (intText (1 + j))) = [.str (.ofString "1"), .str (.ofString "2")] by
    show [V.str (intText 1), V.str (intText 2)] = _
    rw [show intText 1 = .ofString "1" by decide +kernel, show intText 2 = .ofString "2" by decide +kernel]]
  refine cmp_self (by constructor <;> decide +kernel) ?_
  have b19 := H.b 19
  wtm_at "xgh"
  refine get_fl H (by decide) ?_
  wtm_at "xgh"
  generalize hq : F (Int.toNat 19) % 3 = q
  have hq2 : q = 0 ∨ q = 1 ∨ q = 2 := by lia
  have b20 := H.b 20
  rcases hq2 with rfl | rfl | rfl
  · wtm_at "xgx"
    refine get_fl H (by decide) ?_
    wtm_at "xgo"
    refine .inr (.inl ⟨xs0, _, _, _, rfl, by lia, by lia, rng0, ?_⟩)
    wtm_at "xgx"
    refine .inr (.inl ⟨xs3, _, _, 2, rfl, by decide, by decide, rng3, ?_⟩)
    wtm_at "xgo"
    exact hR
  · wtm_at "xgx"
    refine get_fl H (by decide) ?_
    wtm_at "xgo"
    refine .inr (.inl ⟨xs1, _, _, _, rfl, by lia, by lia, rng1, ?_⟩)
    wtm_at "xgx"
    refine .inr (.inl ⟨xs3, _, _, 2, rfl, by decide, by decide, rng3, ?_⟩)
    wtm_at "xgo"
    exact hR
  · wtm_at "xgx"
    refine get_fl H (by decide) ?_
    wtm_at "xgo"
    refine .inr (.inl ⟨xs2, _, _, _, rfl, by lia, by lia, rng2, ?_⟩)
    wtm_at "xgx"
    refine .inr (.inl ⟨xs3, _, _, 2, rfl, by decide, by decide, rng3, ?_⟩)
    wtm_at "xgo"
    exact hR
end
end
/-- the call that the claim asks about -/
theorem law_fin {prog : Program} {w : World} {s₁ : Shared} {mg mb : Str → Option Value} {a fa : Addr} {vs : List Value} {ns : List Int} {c : ClaimW} {cl : Str → Option Addr} {mean : ExcName → Option Value} {args : List WData}
    (KX : (K39 w.params).In s₁.heap) (hg : s₁.heap.Ns mainGlobals mg) (hb : s₁.heap.Ns builtinsNs mb) (nl : s₁.heap.NoLimit) (bu : ∀ x : Str, x ≠ "__name__" → mb x = bootBuiltins x) (hmg : mg (.ofString "law") = some (.ref fa))
    (hL : s₁.heap.IsList a vs.toArray) (hI : IntsAre vs ns) (hn : ns.length ≤ 63) (gens : s₁.gens = #[]) (hr : ∀ cls, c.raises args cls = false) (hp : c.post args (.bool true) args = true) :
    codeAny (model prog w) callerA (.call (.ref fa) ⟨[.ref a], []⟩) (GoodW c cl mean args s₁) s₁ := by
  have e := mg_of KX hg (show nsIn (K39 w.params) mainGlobals (.ofString "law") = some (some (.ref 420)) by kernel_rfl)
  rw [hmg] at e
  cases e
  have G : Grd prog w (K39 w.params) s₁.heap mg mb := ⟨KX, hg, hb, nl, bu, vecK _, refK _⟩
  obtain ⟨o, ho, hc, n, hd⟩ := hL
  have F := ok_law G callerA [] s₁ (fun b x => b = a ∧ x = o) [.ref a] [.lst (nints ns)] (fun r => r = .ret (.bool true))
    (fun v s' => GoodW c cl mean args s₁ (.ok (.ret v)) s') (fun e s' => GoodW c cl mean args s₁ (.error e) s') rfl rfl (by decide) (by decide) (fun _ _ e => e) trivial
    (fun b x z => by obtain ⟨rfl, rfl⟩ := z; exact ⟨Up.of ho, nf_seq hd⟩) (.cons (.lst ⟨rfl, rfl⟩ hc hd (of_ints hI)) .nil) ⟨ns, rfl, hn, rfl⟩
    (fun v d h' tk' P' st _ _ _ _ r q => by
      cases q
      cases r
      exact ⟨.inl ⟨_, _, [], rfl, hr, ReadsW.bool true, hp, fun _ => ⟨List.nodup_nil, fun _ hm => (nomatch hm)⟩⟩, st, rfl, gens⟩)
    (fun e msg h' tk' _ _ _ q => by cases q)
  refine codeAny_mono F fun r s' z => ?_
  match r, z with
  | .ok (.ret v), z => exact z
  | .error e, z => exact z
end Mine
theorem PySem.Challenge.cw_pq1407_01_holds : PySem.Challenge.rw_pq1407_01.Holds := by
  exact Mine.head_of fun _ _ _ _ _ _ _ _ _ _ _ _ _ KX hg hb nl bu hmg hL hI hn gens hr hp => Mine.law_fin KX hg hb nl bu hmg hL hI hn gens hr hp
