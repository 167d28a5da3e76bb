import PyProof.Rows.All
import Wide.All
import OpenK.AllK
import Wide.FinOn
import PySem.Challenge.RW_pq0193_01
set_option Elab.async false
set_option maxRecDepth 100000
set_option maxHeartbeats 8000000
section
open PySem PySem.W PyProof.Rows
namespace Mine
/-- the text -/
noncomputable abbrev pg : Program := PySem.Challenge.rw_pq0193_01.row.toRowW.1
/-- an entry of a table -/
noncomputable def en (P : Params) (x : Str) (t : Tok) (v : Value) : DictEntry := ⟨PyData.keyHash P x, .str x t, v⟩
/-- the def that stands at that place of the text, as an object -/
noncomputable def fnK (i : Nat) (pm cd : Value) : Obj := match PySem.Challenge.pw_pq0193_01.main.body[i]? with
  | some (PySem.Stmt.FunctionDef n a b _ _ _ sc _ _ _) => ⟨.type "function", none, .func (fnOf n n a b sc .none .none .none pm none cd .none), #[]⟩
  | _ => default
noncomputable def initK (pm cd : Value) : Obj := match PySem.Challenge.pw_pq0193_01.main.body[1]? with
  | some (PySem.Stmt.ClassDef _ _ _ (PySem.Stmt.FunctionDef n a b _ _ _ sc _ _ _ :: _) _ _ _ _ _ _ _) => ⟨.type "function", none, .func (fnOf n "CasFail.__init__" a b sc .none .none .none pm none cd .none), #[]⟩
  | _ => default
/-- what stands behind the top, as far as it is looked at -/
noncomputable def heapK : Params → Frag := fun P => [
  (3, ⟨.type "dict", none, .dict #[en P "__name__" 165 (.str "law_pq0193_01" 632), en P "__doc__" 166 (.none), en P "__package__" 167 (.none), en P "__loader__" 168 (.builtin "__main__.__loader__#opaque"), en P "__spec__" 169 (.none), en P "__annotations__" 170 (.ref 6), en P "__builtins__" 171 (.ref 4), en P "__file__" 173 (.str "/claim/cut.py" 172), en P "__cached__" 174 (.none), en P "CasFail" 219 (.ref 31), en P "gcd" 229 (.ref 41), en P "gcd_all" 238 (.ref 48), en P "R0" 243 (.ref 49), en P "rat" 252 (.ref 56), en P "radd" 260 (.ref 63), en P "rsub" 268 (.ref 70), en P "rmul" 276 (.ref 77), en P "rcompare" 285 (.ref 84), en P "ztrim" 295 (.ref 91), en P "zdegree" 302 (.ref 98), en P "zlead" 309 (.ref 105), en P "zadd" 315 (.ref 110), en P "zneg" 321 (.ref 115), en P "zsub" 329 (.ref 122), en P "zscale" 335 (.ref 127), en P "zraise" 343 (.ref 134), en P "zcontent" 350 (.ref 141), en P "zdivided" 356 (.ref 146), en P "zprimitive" 364 (.ref 153), en P "zderive" 370 (.ref 158), en P "check_bottom" 379 (.ref 165), en P "zexact" 391 (.ref 172), en P "pseudo" 407 (.ref 179), en P "zpseudo_rest" 415 (.ref 186), en P "next_height" 426 (.ref 193), en P "subresultants" 439 (.ref 200), en P "zgcd" 450 (.ref 207), en P "sign_of" 459 (.ref 214), en P "value_sign" 472 (.ref 221), en P "end_sign" 481 (.ref 228), en P "sign_at" 489 (.ref 235), en P "simple_part" 497 (.ref 242), en P "lessened" 503 (.ref 247), en P "next_of_row" 514 (.ref 254), en P "sturm_row" 523 (.ref 261), en P "changes_at" 529 (.ref 266), en P "count_by_row" 538 (.ref 273), en P "root_bound" 544 (.ref 278), en P "HALF" 549 (.ref 279), en P "middle" 557 (.ref 286), en P "linear_of" 564 (.ref 293), en P "is_inside" 572 (.ref 300), en P "split_roots" 587 (.ref 307), en P "isolate" 593 (.ref 312), en P "kept_off" 599 (.ref 317), en P "sorted_intervals" 609 (.ref 324), en P "halved" 621 (.ref 331), en P "refine" 631 (.ref 338), en P "_law_draw" 641 (.ref 345), en P "_law_told" 651 (.ref 352), en P "_law_worth" 657 (.ref 357), en P "_law_wide" 666 (.ref 364), en P "_law_narrow_right" 679 (.ref 371), en P "law" 685 (.ref 376)] 64, #[]⟩),
  (27, ⟨.type "code", none, .fields #[.str "__init__" 201, .str "CasFail.__init__" 202, .str "/claim/cut.py" 203, .int 4 0, .int 3 0, .int 0 0, .int 0 0, .int 3 0, .ref 22, .bool true, .int 181 0, .ref 23, .none, .ref 24, .ref 25, .ref 26, .int 207 0, .int 4 0, .str "/claim/cut.py" 208], #[]⟩),
  (28, initK (.str "cas.errors" 187) (.ref 27)),
  (30, ⟨.type "dict", none, .dict #[en P "__module__" 196 (.str "cas.errors" 187), en P "__firstlineno__" 200 (.int 2 199), en P "__init__" 209 (.ref 28), en P "__static_attributes__" 212 (.ref 29), en P "__weakref__" 214 (.ref 32), en P "__doc__" 215 (.none)] 3, #[]⟩),
  (31, ⟨.type "type", none, .cls { name := "CasFail", bases := [.type "Exception"], mro := [.ref 31, .type "Exception", .type "BaseException", .type "object"], ns := 30, qualname := "CasFail" }, #[some (.ref 15), none, some (.str "CasFail" 189), some (.str "CasFail" 197), some (.builtin "Exception.__new__"), some (.bool true)]⟩),
  (40, ⟨.type "code", none, .fields #[.str "gcd" 222, .str "gcd" 223, .str "/claim/cut.py" 224, .int 9 0, .int 2 0, .int 0 0, .int 0 0, .int 3 0, .ref 35, .bool true, .int 181 0, .ref 36, .none, .ref 37, .ref 38, .ref 39, .int 227 0, .int 9 0, .str "/claim/cut.py" 228], #[]⟩),
  (41, fnK 3 (.str "cas.ints" 220) (.ref 40)),
  (47, ⟨.type "code", none, .fields #[.str "gcd_all" 230, .str "gcd_all" 231, .str "/claim/cut.py" 232, .int 14 0, .int 1 0, .int 0 0, .int 0 0, .int 3 0, .ref 42, .bool true, .int 181 0, .ref 43, .none, .ref 44, .ref 45, .ref 46, .int 236 0, .int 14 0, .str "/claim/cut.py" 237], #[]⟩),
  (48, fnK 4 (.str "cas.ints" 220) (.ref 47)),
  (49, ⟨.type "tuple", none, .seq #[.int 0 241, .int 1 242], #[]⟩),
  (55, ⟨.type "code", none, .fields #[.str "rat" 244, .str "rat" 245, .str "/claim/cut.py" 246, .int 21 0, .int 2 0, .int 0 0, .int 0 0, .int 3 0, .ref 50, .bool true, .int 181 0, .ref 51, .none, .ref 52, .ref 53, .ref 54, .int 250 0, .int 21 0, .str "/claim/cut.py" 251], #[]⟩),
  (56, fnK 7 (.str "cas.rats" 239) (.ref 55)),
  (62, ⟨.type "code", none, .fields #[.str "radd" 253, .str "radd" 254, .str "/claim/cut.py" 255, .int 26 0, .int 2 0, .int 0 0, .int 0 0, .int 3 0, .ref 57, .bool true, .int 181 0, .ref 58, .none, .ref 59, .ref 60, .ref 61, .int 258 0, .int 26 0, .str "/claim/cut.py" 259], #[]⟩),
  (63, fnK 8 (.str "cas.rats" 239) (.ref 62)),
  (69, ⟨.type "code", none, .fields #[.str "rsub" 261, .str "rsub" 262, .str "/claim/cut.py" 263, .int 28 0, .int 2 0, .int 0 0, .int 0 0, .int 3 0, .ref 64, .bool true, .int 181 0, .ref 65, .none, .ref 66, .ref 67, .ref 68, .int 266 0, .int 28 0, .str "/claim/cut.py" 267], #[]⟩),
  (70, fnK 9 (.str "cas.rats" 239) (.ref 69)),
  (76, ⟨.type "code", none, .fields #[.str "rmul" 269, .str "rmul" 270, .str "/claim/cut.py" 271, .int 30 0, .int 2 0, .int 0 0, .int 0 0, .int 3 0, .ref 71, .bool true, .int 181 0, .ref 72, .none, .ref 73, .ref 74, .ref 75, .int 274 0, .int 30 0, .str "/claim/cut.py" 275], #[]⟩),
  (77, fnK 10 (.str "cas.rats" 239) (.ref 76)),
  (83, ⟨.type "code", none, .fields #[.str "rcompare" 277, .str "rcompare" 278, .str "/claim/cut.py" 279, .int 32 0, .int 2 0, .int 0 0, .int 0 0, .int 3 0, .ref 78, .bool true, .int 181 0, .ref 79, .none, .ref 80, .ref 81, .ref 82, .int 283 0, .int 32 0, .str "/claim/cut.py" 284], #[]⟩),
  (84, fnK 11 (.str "cas.rats" 239) (.ref 83)),
  (90, ⟨.type "code", none, .fields #[.str "ztrim" 288, .str "ztrim" 289, .str "/claim/cut.py" 290, .int 36 0, .int 1 0, .int 0 0, .int 0 0, .int 3 0, .ref 85, .bool true, .int 181 0, .ref 86, .none, .ref 87, .ref 88, .ref 89, .int 293 0, .int 36 0, .str "/claim/cut.py" 294], #[]⟩),
  (91, fnK 13 (.str "cas.zpoly" 286) (.ref 90)),
  (97, ⟨.type "code", none, .fields #[.str "zdegree" 296, .str "zdegree" 297, .str "/claim/cut.py" 298, .int 41 0, .int 1 0, .int 0 0, .int 0 0, .int 3 0, .ref 92, .bool true, .int 181 0, .ref 93, .none, .ref 94, .ref 95, .ref 96, .int 300 0, .int 41 0, .str "/claim/cut.py" 301], #[]⟩),
  (98, fnK 14 (.str "cas.zpoly" 286) (.ref 97)),
  (104, ⟨.type "code", none, .fields #[.str "zlead" 303, .str "zlead" 304, .str "/claim/cut.py" 305, .int 43 0, .int 1 0, .int 0 0, .int 0 0, .int 3 0, .ref 99, .bool true, .int 181 0, .ref 100, .none, .ref 101, .ref 102, .ref 103, .int 307 0, .int 43 0, .str "/claim/cut.py" 308], #[]⟩),
  (105, fnK 15 (.str "cas.zpoly" 286) (.ref 104)),
  (109, ⟨.type "code", none, .fields #[.str "zadd" 310, .str "zadd" 311, .str "/claim/cut.py" 312, .int 45 0, .int 2 0, .int 0 0, .int 0 0, .int 3 0, .ref 106, .bool true, .int 181 0, .ref 107, .none, .none, .none, .ref 108, .int 313 0, .int 45 0, .str "/claim/cut.py" 314], #[]⟩),
  (110, fnK 16 (.str "cas.zpoly" 286) (.ref 109)),
  (114, ⟨.type "code", none, .fields #[.str "zneg" 316, .str "zneg" 317, .str "/claim/cut.py" 318, .int 48 0, .int 1 0, .int 0 0, .int 0 0, .int 3 0, .ref 111, .bool true, .int 181 0, .ref 112, .none, .none, .none, .ref 113, .int 319 0, .int 48 0, .str "/claim/cut.py" 320], #[]⟩),
  (115, fnK 17 (.str "cas.zpoly" 286) (.ref 114)),
  (121, ⟨.type "code", none, .fields #[.str "zsub" 322, .str "zsub" 323, .str "/claim/cut.py" 324, .int 50 0, .int 2 0, .int 0 0, .int 0 0, .int 3 0, .ref 116, .bool true, .int 181 0, .ref 117, .none, .ref 118, .ref 119, .ref 120, .int 327 0, .int 50 0, .str "/claim/cut.py" 328], #[]⟩),
  (122, fnK 18 (.str "cas.zpoly" 286) (.ref 121)),
  (126, ⟨.type "code", none, .fields #[.str "zscale" 330, .str "zscale" 331, .str "/claim/cut.py" 332, .int 52 0, .int 2 0, .int 0 0, .int 0 0, .int 3 0, .ref 123, .bool true, .int 181 0, .ref 124, .none, .none, .none, .ref 125, .int 333 0, .int 52 0, .str "/claim/cut.py" 334], #[]⟩),
  (127, fnK 19 (.str "cas.zpoly" 286) (.ref 126)),
  (133, ⟨.type "code", none, .fields #[.str "zraise" 336, .str "zraise" 337, .str "/claim/cut.py" 338, .int 54 0, .int 2 0, .int 0 0, .int 0 0, .int 3 0, .ref 128, .bool true, .int 181 0, .ref 129, .none, .ref 130, .ref 131, .ref 132, .int 341 0, .int 54 0, .str "/claim/cut.py" 342], #[]⟩),
  (134, fnK 20 (.str "cas.zpoly" 286) (.ref 133)),
  (140, ⟨.type "code", none, .fields #[.str "zcontent" 344, .str "zcontent" 345, .str "/claim/cut.py" 346, .int 56 0, .int 1 0, .int 0 0, .int 0 0, .int 3 0, .ref 135, .bool true, .int 181 0, .ref 136, .none, .ref 137, .ref 138, .ref 139, .int 348 0, .int 56 0, .str "/claim/cut.py" 349], #[]⟩),
  (141, fnK 21 (.str "cas.zpoly" 286) (.ref 140)),
  (145, ⟨.type "code", none, .fields #[.str "zdivided" 351, .str "zdivided" 352, .str "/claim/cut.py" 353, .int 58 0, .int 2 0, .int 0 0, .int 0 0, .int 3 0, .ref 142, .bool true, .int 181 0, .ref 143, .none, .none, .none, .ref 144, .int 354 0, .int 58 0, .str "/claim/cut.py" 355], #[]⟩),
  (146, fnK 22 (.str "cas.zpoly" 286) (.ref 145)),
  (152, ⟨.type "code", none, .fields #[.str "zprimitive" 357, .str "zprimitive" 358, .str "/claim/cut.py" 359, .int 60 0, .int 1 0, .int 0 0, .int 0 0, .int 3 0, .ref 147, .bool true, .int 181 0, .ref 148, .none, .ref 149, .ref 150, .ref 151, .int 362 0, .int 60 0, .str "/claim/cut.py" 363], #[]⟩),
  (153, fnK 23 (.str "cas.zpoly" 286) (.ref 152)),
  (157, ⟨.type "code", none, .fields #[.str "zderive" 365, .str "zderive" 366, .str "/claim/cut.py" 367, .int 65 0, .int 1 0, .int 0 0, .int 0 0, .int 3 0, .ref 154, .bool true, .int 181 0, .ref 155, .none, .none, .none, .ref 156, .int 368 0, .int 65 0, .str "/claim/cut.py" 369], #[]⟩),
  (158, fnK 24 (.str "cas.zpoly" 286) (.ref 157)),
  (164, ⟨.type "code", none, .fields #[.str "check_bottom" 373, .str "check_bottom" 374, .str "/claim/cut.py" 375, .int 68 0, .int 1 0, .int 0 0, .int 0 0, .int 3 0, .ref 159, .bool true, .int 181 0, .ref 160, .none, .ref 161, .ref 162, .ref 163, .int 377 0, .int 68 0, .str "/claim/cut.py" 378], #[]⟩),
  (165, fnK 26 (.str "cas.zdiv" 371) (.ref 164)),
  (171, ⟨.type "code", none, .fields #[.str "zexact" 380, .str "zexact" 381, .str "/claim/cut.py" 382, .int 71 0, .int 2 0, .int 0 0, .int 0 0, .int 3 0, .ref 166, .bool true, .int 181 0, .ref 167, .none, .ref 168, .ref 169, .ref 170, .int 389 0, .int 71 0, .str "/claim/cut.py" 390], #[]⟩),
  (172, fnK 27 (.str "cas.zdiv" 371) (.ref 171)),
  (178, ⟨.type "code", none, .fields #[.str "pseudo" 392, .str "pseudo" 393, .str "/claim/cut.py" 394, .int 81 0, .int 2 0, .int 0 0, .int 0 0, .int 3 0, .ref 173, .bool true, .int 181 0, .ref 174, .none, .ref 175, .ref 176, .ref 177, .int 405 0, .int 81 0, .str "/claim/cut.py" 406], #[]⟩),
  (179, fnK 28 (.str "cas.zdiv" 371) (.ref 178)),
  (185, ⟨.type "code", none, .fields #[.str "zpseudo_rest" 408, .str "zpseudo_rest" 409, .str "/claim/cut.py" 410, .int 92 0, .int 2 0, .int 0 0, .int 0 0, .int 3 0, .ref 180, .bool true, .int 181 0, .ref 181, .none, .ref 182, .ref 183, .ref 184, .int 413 0, .int 92 0, .str "/claim/cut.py" 414], #[]⟩),
  (186, fnK 29 (.str "cas.zdiv" 371) (.ref 185)),
  (192, ⟨.type "code", none, .fields #[.str "next_height" 418, .str "next_height" 419, .str "/claim/cut.py" 420, .int 95 0, .int 3 0, .int 0 0, .int 0 0, .int 3 0, .ref 187, .bool true, .int 181 0, .ref 188, .none, .ref 189, .ref 190, .ref 191, .int 424 0, .int 95 0, .str "/claim/cut.py" 425], #[]⟩),
  (193, fnK 31 (.str "cas.zgcd" 416) (.ref 192)),
  (199, ⟨.type "code", none, .fields #[.str "subresultants" 427, .str "subresultants" 428, .str "/claim/cut.py" 429, .int 99 0, .int 2 0, .int 0 0, .int 0 0, .int 3 0, .ref 194, .bool true, .int 181 0, .ref 195, .none, .ref 196, .ref 197, .ref 198, .int 437 0, .int 99 0, .str "/claim/cut.py" 438], #[]⟩),
  (200, fnK 32 (.str "cas.zgcd" 416) (.ref 199)),
  (206, ⟨.type "code", none, .fields #[.str "zgcd" 440, .str "zgcd" 441, .str "/claim/cut.py" 442, .int 113 0, .int 2 0, .int 0 0, .int 0 0, .int 3 0, .ref 201, .bool true, .int 181 0, .ref 202, .none, .ref 203, .ref 204, .ref 205, .int 448 0, .int 113 0, .str "/claim/cut.py" 449], #[]⟩),
  (207, fnK 33 (.str "cas.zgcd" 416) (.ref 206)),
  (213, ⟨.type "code", none, .fields #[.str "sign_of" 453, .str "sign_of" 454, .str "/claim/cut.py" 455, .int 121 0, .int 1 0, .int 0 0, .int 0 0, .int 3 0, .ref 208, .bool true, .int 181 0, .ref 209, .none, .ref 210, .ref 211, .ref 212, .int 457 0, .int 121 0, .str "/claim/cut.py" 458], #[]⟩),
  (214, fnK 35 (.str "cas.sturm" 451) (.ref 213)),
  (220, ⟨.type "code", none, .fields #[.str "value_sign" 460, .str "value_sign" 461, .str "/claim/cut.py" 462, .int 123 0, .int 2 0, .int 0 0, .int 0 0, .int 3 0, .ref 215, .bool true, .int 181 0, .ref 216, .none, .ref 217, .ref 218, .ref 219, .int 470 0, .int 123 0, .str "/claim/cut.py" 471], #[]⟩),
  (221, fnK 36 (.str "cas.sturm" 451) (.ref 220)),
  (227, ⟨.type "code", none, .fields #[.str "end_sign" 473, .str "end_sign" 474, .str "/claim/cut.py" 475, .int 130 0, .int 2 0, .int 0 0, .int 0 0, .int 3 0, .ref 222, .bool true, .int 181 0, .ref 223, .none, .ref 224, .ref 225, .ref 226, .int 479 0, .int 130 0, .str "/claim/cut.py" 480], #[]⟩),
  (228, fnK 37 (.str "cas.sturm" 451) (.ref 227)),
  (234, ⟨.type "code", none, .fields #[.str "sign_at" 482, .str "sign_at" 483, .str "/claim/cut.py" 484, .int 135 0, .int 2 0, .int 0 0, .int 0 0, .int 3 0, .ref 229, .bool true, .int 181 0, .ref 230, .none, .ref 231, .ref 232, .ref 233, .int 487 0, .int 135 0, .str "/claim/cut.py" 488], #[]⟩),
  (235, fnK 38 (.str "cas.sturm" 451) (.ref 234)),
  (241, ⟨.type "code", none, .fields #[.str "simple_part" 490, .str "simple_part" 491, .str "/claim/cut.py" 492, .int 137 0, .int 1 0, .int 0 0, .int 0 0, .int 3 0, .ref 236, .bool true, .int 181 0, .ref 237, .none, .ref 238, .ref 239, .ref 240, .int 495 0, .int 137 0, .str "/claim/cut.py" 496], #[]⟩),
  (242, fnK 39 (.str "cas.sturm" 451) (.ref 241)),
  (246, ⟨.type "code", none, .fields #[.str "lessened" 498, .str "lessened" 499, .str "/claim/cut.py" 500, .int 140 0, .int 1 0, .int 0 0, .int 0 0, .int 3 0, .ref 243, .bool true, .int 181 0, .ref 244, .none, .none, .none, .ref 245, .int 501 0, .int 140 0, .str "/claim/cut.py" 502], #[]⟩),
  (247, fnK 40 (.str "cas.sturm" 451) (.ref 246)),
  (253, ⟨.type "code", none, .fields #[.str "next_of_row" 504, .str "next_of_row" 505, .str "/claim/cut.py" 506, .int 143 0, .int 2 0, .int 0 0, .int 0 0, .int 3 0, .ref 248, .bool true, .int 181 0, .ref 249, .none, .ref 250, .ref 251, .ref 252, .int 512 0, .int 143 0, .str "/claim/cut.py" 513], #[]⟩),
  (254, fnK 41 (.str "cas.sturm" 451) (.ref 253)),
  (260, ⟨.type "code", none, .fields #[.str "sturm_row" 515, .str "sturm_row" 516, .str "/claim/cut.py" 517, .int 148 0, .int 1 0, .int 0 0, .int 0 0, .int 3 0, .ref 255, .bool true, .int 181 0, .ref 256, .none, .ref 257, .ref 258, .ref 259, .int 521 0, .int 148 0, .str "/claim/cut.py" 522], #[]⟩),
  (261, fnK 42 (.str "cas.sturm" 451) (.ref 260)),
  (265, ⟨.type "code", none, .fields #[.str "changes_at" 524, .str "changes_at" 525, .str "/claim/cut.py" 526, .int 154 0, .int 2 0, .int 0 0, .int 0 0, .int 3 0, .ref 262, .bool true, .int 181 0, .ref 263, .none, .none, .none, .ref 264, .int 527 0, .int 154 0, .str "/claim/cut.py" 528], #[]⟩),
  (266, fnK 43 (.str "cas.sturm" 451) (.ref 265)),
  (272, ⟨.type "code", none, .fields #[.str "count_by_row" 530, .str "count_by_row" 531, .str "/claim/cut.py" 532, .int 158 0, .int 3 0, .int 0 0, .int 0 0, .int 3 0, .ref 267, .bool true, .int 181 0, .ref 268, .none, .ref 269, .ref 270, .ref 271, .int 536 0, .int 158 0, .str "/claim/cut.py" 537], #[]⟩),
  (273, fnK 44 (.str "cas.sturm" 451) (.ref 272)),
  (277, ⟨.type "code", none, .fields #[.str "root_bound" 539, .str "root_bound" 540, .str "/claim/cut.py" 541, .int 160 0, .int 1 0, .int 0 0, .int 0 0, .int 3 0, .ref 274, .bool true, .int 181 0, .ref 275, .none, .none, .none, .ref 276, .int 542 0, .int 160 0, .str "/claim/cut.py" 543], #[]⟩),
  (278, fnK 45 (.str "cas.sturm" 451) (.ref 277)),
  (279, ⟨.type "tuple", none, .seq #[.int 1 547, .int 2 548], #[]⟩),
  (285, ⟨.type "code", none, .fields #[.str "middle" 550, .str "middle" 551, .str "/claim/cut.py" 552, .int 165 0, .int 2 0, .int 0 0, .int 0 0, .int 3 0, .ref 280, .bool true, .int 181 0, .ref 281, .none, .ref 282, .ref 283, .ref 284, .int 555 0, .int 165 0, .str "/claim/cut.py" 556], #[]⟩),
  (286, fnK 48 (.str "cas.roots" 545) (.ref 285)),
  (292, ⟨.type "code", none, .fields #[.str "linear_of" 558, .str "linear_of" 559, .str "/claim/cut.py" 560, .int 167 0, .int 1 0, .int 0 0, .int 0 0, .int 3 0, .ref 287, .bool true, .int 181 0, .ref 288, .none, .ref 289, .ref 290, .ref 291, .int 562 0, .int 167 0, .str "/claim/cut.py" 563], #[]⟩),
  (293, fnK 49 (.str "cas.roots" 545) (.ref 292)),
  (299, ⟨.type "code", none, .fields #[.str "is_inside" 565, .str "is_inside" 566, .str "/claim/cut.py" 567, .int 169 0, .int 2 0, .int 0 0, .int 0 0, .int 3 0, .ref 294, .bool true, .int 181 0, .ref 295, .none, .ref 296, .ref 297, .ref 298, .int 570 0, .int 169 0, .str "/claim/cut.py" 571], #[]⟩),
  (300, fnK 50 (.str "cas.roots" 545) (.ref 299)),
  (306, ⟨.type "code", none, .fields #[.str "split_roots" 573, .str "split_roots" 574, .str "/claim/cut.py" 575, .int 171 0, .int 1 0, .int 0 0, .int 0 0, .int 3 0, .ref 301, .bool true, .int 181 0, .ref 302, .none, .ref 303, .ref 304, .ref 305, .int 585 0, .int 171 0, .str "/claim/cut.py" 586], #[]⟩),
  (307, fnK 51 (.str "cas.roots" 545) (.ref 306)),
  (311, ⟨.type "code", none, .fields #[.str "isolate" 588, .str "isolate" 589, .str "/claim/cut.py" 590, .int 186 0, .int 1 0, .int 0 0, .int 0 0, .int 3 0, .ref 308, .bool true, .int 181 0, .ref 309, .none, .none, .none, .ref 310, .int 591 0, .int 186 0, .str "/claim/cut.py" 592], #[]⟩),
  (312, fnK 52 (.str "cas.roots" 545) (.ref 311)),
  (316, ⟨.type "code", none, .fields #[.str "kept_off" 594, .str "kept_off" 595, .str "/claim/cut.py" 596, .int 197 0, .int 3 0, .int 0 0, .int 0 0, .int 3 0, .ref 313, .bool true, .int 181 0, .ref 314, .none, .none, .none, .ref 315, .int 597 0, .int 197 0, .str "/claim/cut.py" 598], #[]⟩),
  (317, fnK 53 (.str "cas.roots" 545) (.ref 316)),
  (323, ⟨.type "code", none, .fields #[.str "sorted_intervals" 600, .str "sorted_intervals" 601, .str "/claim/cut.py" 602, .int 201 0, .int 1 0, .int 0 0, .int 0 0, .int 3 0, .ref 318, .bool true, .int 181 0, .ref 319, .none, .ref 320, .ref 321, .ref 322, .int 607 0, .int 201 0, .str "/claim/cut.py" 608], #[]⟩),
  (324, fnK 54 (.str "cas.roots" 545) (.ref 323)),
  (330, ⟨.type "code", none, .fields #[.str "halved" 610, .str "halved" 611, .str "/claim/cut.py" 612, .int 209 0, .int 2 0, .int 0 0, .int 0 0, .int 3 0, .ref 325, .bool true, .int 181 0, .ref 326, .none, .ref 327, .ref 328, .ref 329, .int 619 0, .int 209 0, .str "/claim/cut.py" 620], #[]⟩),
  (331, fnK 55 (.str "cas.roots" 545) (.ref 330)),
  (337, ⟨.type "code", none, .fields #[.str "refine" 622, .str "refine" 623, .str "/claim/cut.py" 624, .int 216 0, .int 3 0, .int 0 0, .int 0 0, .int 3 0, .ref 332, .bool true, .int 181 0, .ref 333, .none, .ref 334, .ref 335, .ref 336, .int 629 0, .int 216 0, .str "/claim/cut.py" 630], #[]⟩),
  (338, fnK 56 (.str "cas.roots" 545) (.ref 337)),
  (344, ⟨.type "code", none, .fields #[.str "_law_draw" 634, .str "_law_draw" 635, .str "/claim/cut.py" 636, .int 224 0, .int 2 0, .int 0 0, .int 0 0, .int 3 0, .ref 339, .bool true, .int 181 0, .ref 340, .none, .ref 341, .ref 342, .ref 343, .int 639 0, .int 224 0, .str "/claim/cut.py" 640], #[]⟩),
  (345, fnK 58 (.str "law_pq0193_01" 632) (.ref 344)),
  (351, ⟨.type "code", none, .fields #[.str "_law_told" 642, .str "_law_told" 643, .str "/claim/cut.py" 644, .int 229 0, .int 3 0, .int 0 0, .int 0 0, .int 3 0, .ref 346, .bool true, .int 181 0, .ref 347, .none, .ref 348, .ref 349, .ref 350, .int 649 0, .int 229 0, .str "/claim/cut.py" 650], #[]⟩),
  (352, fnK 59 (.str "law_pq0193_01" 632) (.ref 351)),
  (356, ⟨.type "code", none, .fields #[.str "_law_worth" 652, .str "_law_worth" 653, .str "/claim/cut.py" 654, .int 234 0, .int 2 0, .int 0 0, .int 0 0, .int 3 0, .ref 353, .bool true, .int 181 0, .ref 354, .none, .none, .none, .ref 355, .int 655 0, .int 234 0, .str "/claim/cut.py" 656], #[]⟩),
  (357, fnK 60 (.str "law_pq0193_01" 632) (.ref 356)),
  (363, ⟨.type "code", none, .fields #[.str "_law_wide" 658, .str "_law_wide" 659, .str "/claim/cut.py" 660, .int 236 0, .int 1 0, .int 0 0, .int 0 0, .int 3 0, .ref 358, .bool true, .int 181 0, .ref 359, .none, .ref 360, .ref 361, .ref 362, .int 664 0, .int 236 0, .str "/claim/cut.py" 665], #[]⟩),
  (364, fnK 61 (.str "law_pq0193_01" 632) (.ref 363)),
  (370, ⟨.type "code", none, .fields #[.str "_law_narrow_right" 667, .str "_law_narrow_right" 668, .str "/claim/cut.py" 669, .int 239 0, .int 3 0, .int 0 0, .int 0 0, .int 3 0, .ref 365, .bool true, .int 181 0, .ref 366, .none, .ref 367, .ref 368, .ref 369, .int 677 0, .int 239 0, .str "/claim/cut.py" 678], #[]⟩),
  (371, fnK 62 (.str "law_pq0193_01" 632) (.ref 370)),
  (375, ⟨.type "code", none, .fields #[.str "law" 680, .str "law" 681, .str "/claim/cut.py" 682, .int 252 0, .int 1 0, .int 0 0, .int 0 0, .int 3 0, .ref 372, .bool true, .int 181 0, .ref 373, .none, .none, .none, .ref 374, .int 683 0, .int 252 0, .str "/claim/cut.py" 684], #[]⟩),
  (376, fnK 63 (.str "law_pq0193_01" 632) (.ref 375))]
noncomputable def adK : List Addr := [3, 27, 28, 30, 31, 40, 41, 47, 48, 49, 55, 56, 62, 63, 69, 70, 76, 77, 83, 84, 90, 91, 97, 98, 104, 105, 109, 110, 114, 115, 121, 122, 126, 127, 133, 134, 140, 141, 145, 146, 152, 153, 157, 158, 164, 165, 171, 172, 178, 179, 185, 186, 192, 193, 199, 200, 206, 207, 213, 214, 220, 221, 227, 228, 234, 235, 241, 242, 246, 247, 253, 254, 260, 261, 265, 266, 272, 273, 277, 278, 279, 285, 286, 292, 293, 299, 300, 306, 307, 311, 312, 316, 317, 323, 324, 330, 331, 337, 338, 344, 345, 351, 352, 356, 357, 363, 364, 370, 371, 375, 376]
theorem adK_eq : ∀ P, adK = (heapK P).map (·.1) := fun _ => by kernel_rfl
noncomputable abbrev hkK : Hook := kHook heapK adK adK_eq
/-- the text without the lines that bind __name__ -/
noncomputable def qv : Program := { pg with main := { pg.main with body := [1, 3, 4, 6, 7, 8, 9, 10, 11, 13, 14, 15, 16, 17, 18, 19, 20, 21, 22, 23, 24, 26, 27, 28, 29, 31, 32, 33, 35, 36, 37, 38, 39, 40, 41, 42, 43, 44, 45, 47, 48, 49, 50, 51, 52, 53, 54, 55, 56, 58, 59, 60, 61, 62, 63].filterMap fun i => PySem.Challenge.pw_pq0193_01.main.body[i]? } }
noncomputable abbrev xtK : Shared → Bool := fun s => xlAt qv [] s && recOk (RowW.records PySem.Challenge.rw_pq0193_01.row.toRowW) s
theorem lookA : ∀ w : World, (fun os => (topRun treeTable pg w 11 (some (Value.ref 6)) 2000 ⟨boot_heap w.params, #[], boot_drawn, boot_toks, os⟩ (topStub pg)).map fun s => (seen ((recsOf qv).map (·.name)) (ownsOf qv) [] { s with gens := #[] }, s.heap.bltView, pinSeenD qv (drecsOf qv) s, plainSeenD qv [] s, clsSeenW qv [] s)) =
    fun _ => some (expectedOf qv, bltViewBooted, pinGoodD (drecsOf qv), plainGoodD qv [], clsGoodW qv []) := by
  rw [PySem.W.Fast.te14082659384304107361, PySem.W.Fast.te14364793385576792824, PySem.W.Fast.te5160383126252970620, PySem.W.Fast.te3399658132070893891, PySem.W.Fast.te5991557255702980513, PySem.W.Fast.te16090120013241838585, PySem.W.Fast.te3247288618530077131, PySem.W.Fast.te11698064438423848299, PySem.W.Fast.te7369524293546568484]
  intro w
  kernel_rfl
theorem lookB : ∀ w : World, (fun os => (topRun treeTable pg w 11 (some (Value.ref 6)) 2000 ⟨boot_heap w.params, #[], boot_drawn, boot_toks, os⟩ (topStub pg)).map fun s => ((s.heap.keysOk (looseW qv []) ((recsOf qv).map (·.name)) ((litsOf qv).map (·.1)) ((clssOf qv (looseW qv [])).map (·.name)) && s.heap.accountedOkI (importedModules pg.main.body) && s.heap.isNs mainGlobals && s.heap.isNs builtinsNs && tablesOk qv s.heap && xtK s && (if true then s.gens.size == 0 else !leftWithCleanup s.gens)), plainSeenE qv (looseW qv []) s, (staticsOk (importedModules pg.main.body) (boot_heap w.params) s.heap && namesBound pg s.heap && gensDone s && laidKept (boot_heap w.params) s.heap))) =
    fun _ => some (true, plainGoodE qv (looseW qv []), true) := by
  rw [PySem.W.Fast.te14082659384304107361, PySem.W.Fast.te14364793385576792824, PySem.W.Fast.te3399658132070893891, PySem.W.Fast.te10880121769531294198, PySem.W.Fast.te821141287760084731, PySem.W.Fast.te7409074990110511671, PySem.W.Fast.te13664370479719496447, PySem.W.Fast.te14722251495701143533, PySem.W.Fast.te10994771534591457954, PySem.W.Fast.te2386780881361962483, PySem.W.Fast.te5923862056798008813]
  intro w
  kernel_rfl
theorem lookC : ∀ w : World, (fun os => (topRun treeTable pg w 11 (some (Value.ref 6)) 2000 ⟨boot_heap w.params, #[], boot_drawn, boot_toks, os⟩ (topStub pg)).map fun s => (tabsOk qv s, hkK.obs s)) =
    fun _ => some (true, hkK.val w) := by
  rw [PySem.W.Fast.te14082659384304107361, PySem.W.Fast.te14364793385576792824, PySem.W.Fast.te479339242167458305]
  intro w
  kernel_rfl
theorem lookE : ∀ w : World, (fun os => (topRun treeTable pg w 11 (some (Value.ref 6)) 2000 ⟨boot_heap w.params, #[], boot_drawn, boot_toks, os⟩ (topStub pg)).map fun s => (wideSeen qv s)) =
    fun _ => some (wideGood qv) := by
  rw [PySem.W.Fast.te14082659384304107361, PySem.W.Fast.te14364793385576792824, PySem.W.Fast.te7317090234206586261]
  intro w
  kernel_rfl
theorem opening_pg : opening pg = plainProg pg.main.scope.names := by kernel_rfl
theorem fence_pg (s : Shared) : fenceModules? pg s = some s := by kernel_rfl
theorem size_pg (w : World) : ((boot_heap w.params).isNs mainGlobals && (#[] : Array GenState).size == 0) = true := by kernel_rfl
theorem size_pg2 (w : World) : (boot_heap w.params).objs.size = 11 := by kernel_rfl
theorem size_pg3 (w : World) : (boot_heap w.params).nsMap mainGlobals "__annotations__" = some (.ref 6) := by
  rw [PySem.W.Fast.te8920871248978507458]
  kernel_rfl
theorem leftK : LeftO pg qv [] xtK hkK.obs hkK.val 2000 := fun w => by
  obtain ⟨⟨h, gs, d, k, os⟩, e, e'⟩ := Option.map_eq_some_iff.mp (boot_open (p := pg) (N := 2000) opening_pg (by decide) fence_pg w)
  simp only [Prod.mk.injEq] at e'
  obtain ⟨rfl, rfl, rfl, rfl⟩ := e'
  obtain ⟨s, hs, hl⟩ := Option.map_eq_some_iff.mp (congrFun (lookA w) os)
  have hB := congrFun (lookB w) os
  have hC := congrFun (lookC w) os
  have hE := congrFun (lookE w) os
  rw [hs, Option.map_some] at hB hC hE
  obtain ⟨c1, hl⟩ := Prod.mk.inj hl
  obtain ⟨c2, hl⟩ := Prod.mk.inj hl
  obtain ⟨c5, hl⟩ := Prod.mk.inj hl
  obtain ⟨c7, c9⟩ := Prod.mk.inj hl
  obtain ⟨c3, hB⟩ := Prod.mk.inj (Option.some.inj hB)
  obtain ⟨c6, l1⟩ := Prod.mk.inj hB
  obtain ⟨c4, l3⟩ := Prod.mk.inj (Option.some.inj hC)
  have c8 := Option.some.inj hE
  have t : topFrom treeTable pg w 2000 ⟨boot_heap w.params, #[], boot_drawn, boot_toks, os⟩ = some s := by
    unfold topFrom
    dsimp only
    rw [size_pg w, size_pg2 w, size_pg3 w, hs]
    rw [Option.bind_some, l1]
  unfold openEnds
  rw [e]
  rw [Option.bind_some, t, Option.map_some]
  have l2 : openSeen qv [] (importedModules pg.main.body) xtK true s = openGood qv [] := by
    unfold openSeen openGood
    rw [c1, c2, c3, c4, c5, c6, c7, c8, c9]
  have fin : (openSeen qv [] (importedModules pg.main.body) xtK true s, hkK.obs s) = (openGood qv [], hkK.val w) := by rw [l2, l3]
  exact congrArg some fin
theorem said : PySem.Challenge.rw_pq0193_01.wellSaid = true := by
  unfold OpenLaw.wellSaid OpenRow.wellSaid OpenRow.partSaid looksOpen
  rw [PySem.W.Fast.te17119622794617984870, PySem.W.Fast.te8326940854005059898, PySem.W.Fast.te9558739934217749035, PySem.W.Fast.te16286561074155671207, PySem.W.Fast.te8377067652309620493, PySem.W.Fast.named_eq, PySem.W.Fast.te17868728402115742887]
  kernel_rfl
/-- the law's own def -/
noncomputable def lawD : DefRec := match PySem.Challenge.pw_pq0193_01.main.body[63]? with
  | some (PySem.Stmt.FunctionDef n a b _ _ _ sc _ _ pos) => ⟨n, a, b, sc, pos⟩
  | _ => ⟨"", default, [], default, default⟩
theorem law_def : defOf qv PySem.Challenge.rw_pq0193_01.row.name = some (lawD, []) := by kernel_rfl
theorem law_the : PySem.Challenge.rw_pq0193_01.row.prog.theDef PySem.Challenge.rw_pq0193_01.row.name = some (lawD.params, lawD.body, lawD.scope) := by kernel_rfl
theorem law_kw : kwWritten? lawD.params.kwonlyargs lawD.params.kw_defaults = some [] := by kernel_rfl
theorem head_ok : (chainsOk qv && opensWell PySem.Challenge.rw_pq0193_01.row.prog && (frees PySem.Challenge.rw_pq0193_01.row.toRowW && PySem.Challenge.rw_pq0193_01.row.within.isEmpty)) = true := by kernel_rfl
theorem hd : (WalkO qv [] (XL qv []) hkK.says PySem.Challenge.rw_pq0193_01.row.toRowW lawD [] fun f vs => call f vs) → PySem.Challenge.rw_pq0193_01.Holds := fun walk => by
  refine holds_law said fun said' => ?_
  refine holds_open (q := qv) (loose := []) (Xt := xtK) (XP := XL qv []) (Yf := hkK.obs) (Ya := hkK.val) (YP := hkK.says) (N := 2000) leftK hkK.of hkK.keeps (fun s e => xl_of s (Bool.and_eq_true_iff.mp e).1) XL.keeps law_def law_the law_kw (fun s e => recFacts_of (Bool.and_eq_true_iff.mp e).2) (by rfl) said' head_ok ⟨rfl, rfl, rfl, rfl, rfl, by decide +kernel⟩ ?hw walk
  case hw => w_witness2
end Mine
end
section
open PySem PySem.W PyProof.Rows PySem.Calls
namespace Mine

/-- plain data -/
inductive V where
  | none
  | bool (b : Bool)
  | int (i : Int)
  | str (s : Str)
  | tup (l : List V)
  | lst (l : List V)
  | raw (v : Value)

noncomputable abbrev PM := Addr → Option Obj
noncomputable def Sub (F G : PM) : Prop := ∀ a o, F a = some o → G a = some o
theorem Sub.refl (F : PM) : Sub F F := fun _ _ e => e
theorem Sub.trans {F G H : PM} (x : Sub F G) (y : Sub G H) : Sub F H := fun a o e => y a o (x a o e)

noncomputable abbrev tupO (vs : List Value) : Obj := { cls := .type "tuple", data := .seq vs.toArray }
noncomputable abbrev lstO (vs : List Value) (n : Nat) : Obj := { cls := .type "list", data := .seq vs.toArray n }

/-- the longest list that is served -/
noncomputable abbrev cap : Nat := 1000000

mutual
noncomputable def Rep (F : PM) : Value → V → Prop
  | v, .none => v = .none
  | v, .bool b => v = .bool b
  | v, .int i => ∃ t, v = .int i t
  | v, .str s => ∃ t, v = .str s t
  | v, .raw u => v = u
  | v, .tup l => ∃ a vs, v = .ref a ∧ F a = some (tupO vs) ∧ Reps F vs l ∧ l.length ≤ cap
  | v, .lst l => ∃ a vs n, v = .ref a ∧ F a = some (lstO vs n) ∧ Reps F vs l ∧ l.length ≤ cap
noncomputable def Reps (F : PM) : List Value → List V → Prop
  | vs, [] => vs = []
  | vs, d :: ds => ∃ v r, vs = v :: r ∧ Rep F v d ∧ Reps F r ds
end

mutual
theorem Rep.mono {F G : PM} (x : Sub F G) : ∀ {v : Value} {d : V}, Rep F v d → Rep G v d
  | _, .none, h => h
  | _, .bool _, h => h
  | _, .int _, h => h
  | _, .str _, h => h
  | _, .raw _, h => h
  | _, .tup _, h => by
    unfold Rep at h ⊢
    obtain ⟨a, vs, e, ha, hr, hl⟩ := h
    exact ⟨a, vs, e, x _ _ ha, Reps.mono x hr, hl⟩
  | _, .lst _, h => by
    unfold Rep at h ⊢
    obtain ⟨a, vs, n, e, ha, hr, hl⟩ := h
    exact ⟨a, vs, n, e, x _ _ ha, Reps.mono x hr, hl⟩
theorem Reps.mono {F G : PM} (x : Sub F G) : ∀ {vs : List Value} {ds : List V}, Reps F vs ds → Reps G vs ds
  | _, [], h => h
  | _, _ :: _, h => by
    unfold Reps at h ⊢
    obtain ⟨v, r, e, hv, hr⟩ := h
    exact ⟨v, r, e, Rep.mono x hv, Reps.mono x hr⟩
end

theorem Reps.len {F : PM} : ∀ {vs : List Value} {ds : List V}, Reps F vs ds → vs.length = ds.length
  | _, [], h => by unfold Reps at h; subst h; rfl
  | _, _ :: _, h => by
    unfold Reps at h
    obtain ⟨v, r, rfl, _, hr⟩ := h
    simp [hr.len]

theorem Reps.get {F : PM} : ∀ {vs : List Value} {ds : List V} {i : Nat} {v : Value}, Reps F vs ds → vs[i]? = some v → ∃ d, ds[i]? = some d ∧ Rep F v d
  | _, [], _, _, h, e => by unfold Reps at h; subst h; simp at e
  | _, d :: ds, 0, v, h, e => by
    unfold Reps at h
    obtain ⟨v', r, rfl, hv, hr⟩ := h
    simp at e; subst e
    exact ⟨d, rfl, hv⟩
  | _, d :: ds, i + 1, v, h, e => by
    unfold Reps at h
    obtain ⟨v', r, rfl, hv, hr⟩ := h
    simp at e
    obtain ⟨d', h1, h2⟩ := hr.get e
    exact ⟨d', by simpa using h1, h2⟩

theorem Reps.get' {F : PM} : ∀ {vs : List Value} {ds : List V} {i : Nat} {d : V}, Reps F vs ds → ds[i]? = some d → ∃ v, vs[i]? = some v ∧ Rep F v d
  | _, [], _, _, _, e => by simp at e
  | _, d' :: ds, 0, d, h, e => by
    unfold Reps at h
    obtain ⟨v', r, rfl, hv, hr⟩ := h
    simp at e; subst e
    exact ⟨v', rfl, hv⟩
  | _, d' :: ds, i + 1, d, h, e => by
    unfold Reps at h
    obtain ⟨v', r, rfl, hv, hr⟩ := h
    simp at e
    obtain ⟨d', h1, h2⟩ := hr.get' e
    exact ⟨d', by simpa using h1, h2⟩

theorem Reps.append {F : PM} : ∀ {vs ws : List Value} {ds es : List V}, Reps F vs ds → Reps F ws es → Reps F (vs ++ ws) (ds ++ es)
  | _, _, [], _, h, k => by unfold Reps at h; subst h; exact k
  | _, _, _ :: _, _, h, k => by
    unfold Reps at h
    obtain ⟨v, r, rfl, hv, hr⟩ := h
    show Reps F (v :: (r ++ _)) (_ :: (_ ++ _))
    unfold Reps
    exact ⟨v, _, rfl, hv, hr.append k⟩

theorem Reps.snoc {F : PM} {vs : List Value} {ds : List V} {v : Value} {d : V} (h : Reps F vs ds) (k : Rep F v d) : Reps F (vs ++ [v]) (ds ++ [d]) :=
  h.append (by unfold Reps; exact ⟨v, [], rfl, k, by unfold Reps; rfl⟩)

theorem Reps.nil {F : PM} : Reps F [] [] := by unfold Reps; rfl
theorem Reps.cons {F : PM} {v : Value} {d : V} {vs : List Value} {ds : List V} (h : Rep F v d) (k : Reps F vs ds) : Reps F (v :: vs) (d :: ds) := by
  unfold Reps; exact ⟨v, vs, rfl, h, k⟩

theorem Reps.take {F : PM} : ∀ (n : Nat) {vs : List Value} {ds : List V}, Reps F vs ds → Reps F (vs.take n) (ds.take n)
  | 0, _, _, _ => by simpa using Reps.nil
  | n + 1, _, [], h => by unfold Reps at h; subst h; simpa using Reps.nil
  | n + 1, _, d :: ds, h => by
    unfold Reps at h
    obtain ⟨v, r, rfl, hv, hr⟩ := h
    simpa using Reps.cons hv (hr.take n)
theorem Reps.drop {F : PM} : ∀ (n : Nat) {vs : List Value} {ds : List V}, Reps F vs ds → Reps F (vs.drop n) (ds.drop n)
  | 0, _, _, h => by simpa using h
  | n + 1, _, [], h => by unfold Reps at h; subst h; simpa using Reps.nil
  | n + 1, _, d :: ds, h => by
    unfold Reps at h
    obtain ⟨v, r, rfl, hv, hr⟩ := h
    simpa using hr.drop n

/-- what the world is: the program, the heap behind its top, the names -/
structure Cx where
  prog : Program
  w : World
  b0 : Heap
  mg : Str → Option Value
  mb : Str → Option Value
  g : b0.Ns mainGlobals mg
  b : b0.Ns builtinsNs mb
  bi : ∀ x : Str, x ≠ "__name__" → mb x = bootBuiltins x
  lim : b0.NoLimit

noncomputable abbrev Cx.M (C : Cx) : Model := model C.prog C.w

structure Room (n : Nat) (A : Around) : Prop where
  hh : A.handled = none
  dep : A.depth + n + 10 < recursionLimit
  un : A.units + 10 * n + 100 < cLine

theorem Room.mono {n m : Nat} {A : Around} (r : Room n A) (h : m ≤ n) : Room m A := ⟨r.hh, by have := r.dep; omega, by have := r.un; omega⟩
theorem Room.deeper {n : Nat} {A : Around} (r : Room (n + 1) A) (env : Env) : Room n (A.deeper env) :=
  ⟨r.hh, by have := r.dep; show A.depth + 1 + n + 10 < recursionLimit; omega, by have := r.un; show A.units + 3 + 10 * n + 100 < cLine; omega⟩
theorem Room.depLt {n : Nat} {A : Around} (r : Room n A) : A.depth < recursionLimit := by have := r.dep; omega
theorem Room.unLt {n : Nat} {A : Around} (r : Room n A) : A.units < cLine := by have := r.un; omega

structure EnvOk (env : Env) (sc : Scope) : Prop where
  is : env.scope = sc
  fk : sc.kind = .function
  gl : env.globals = mainGlobals
  bt : env.builtins = builtinsNs

noncomputable def VarAt (env : Env) (h : Heap) (x : Str) (v : Value) : Prop :=
  (env.kindOf x = some .local ∧ ∃ m, h.Ns env.locals m ∧ m x = some v) ∨
  ((env.kindOf x = some .cell ∨ env.kindOf x = some .free) ∧ ∃ c, env.cells.lookup x = some c ∧ h.IsCell c (some v))

theorem VarAt.keeps {env : Env} {h h' : Heap} {x : Str} {v : Value} (a : VarAt env h x v) (k : Sub h.get? h'.get?) : VarAt env h' x v :=
  a.elim (fun ⟨e, m, hn, hm⟩ => .inl ⟨e, m, hn.keeps k, hm⟩) fun ⟨e, c, hc, hv⟩ => .inr ⟨e, c, hc, hv.keeps k⟩

/-- what a name holds: frozen data, or a list of its own that may still be turned -/
inductive Sl where
  | val (d : V)
  | own (ds : List V)

noncomputable def SlR (F : PM) (h : Heap) (v : Value) : Sl → Prop
  | .val d => Rep F v d
  | .own ds => ∃ a vs n, v = .ref a ∧ F a = none ∧ h.get? a = some (lstO vs n) ∧ Reps F vs ds ∧ ds.length ≤ cap

inductive LK : List (Str × Sl) → Str → Sl → Prop
  | here {x : Str} {t : Sl} {r : List (Str × Sl)} : LK ((x, t) :: r) x t
  | next {x y : Str} {t u : Sl} {r : List (Str × Sl)} (hne : x ≠ y) (h : LK r x t) : LK ((y, u) :: r) x t

theorem LK.mem {r : List (Str × Sl)} {x : Str} {t : Sl} (h : LK r x t) : (x, t) ∈ r := by
  induction h with
  | here => exact List.mem_cons_self
  | next _ _ ih => exact List.mem_cons_of_mem _ ih

structure Ext (F : PM) (h : Heap) (F' : PM) (h' : Heap) : Prop where
  up : Sub F F'
  le : Sub F' h'.get?
  keep : Sub h.get? h'.get?
  fresh : ∀ a, F a = none → F' a ≠ none → h.get? a = none

theorem Ext.refl {F : PM} {h : Heap} (le : Sub F h.get?) : Ext F h F h := ⟨Sub.refl _, le, Sub.refl _, fun _ e n => absurd e n⟩
theorem Ext.trans {F F' F'' : PM} {h h' h'' : Heap} (x : Ext F h F' h') (y : Ext F' h' F'' h'') : Ext F h F'' h'' :=
  ⟨x.up.trans y.up, y.le, x.keep.trans y.keep, fun a e n => by
    by_cases c : F' a = none
    · have := y.fresh a c n
      cases q : h.get? a with
      | none => rfl
      | some o => rw [x.keep a o q] at this; cases this
    · exact x.fresh a e c⟩

theorem Ext.of_keep {F : PM} {h h' : Heap} (le : Sub F h.get?) (k : Sub h.get? h'.get?) : Ext F h F h' := ⟨Sub.refl _, le.trans k, k, fun _ e n => absurd e n⟩

structure Holds (env : Env) (r : List (Str × Sl)) (F : PM) (h : Heap) : Prop where
  var : ∀ x t, LK r x t → ∃ v, VarAt env h x v ∧ SlR F h v t

theorem SlR.ext {F F' : PM} {h h' : Heap} {v : Value} (x : Ext F h F' h') : ∀ {t : Sl}, SlR F h v t → SlR F' h' v t
  | .val _, r => Rep.mono x.up r
  | .own _, r => by
    obtain ⟨a, vs, n, e, hF, hh, hr, hl⟩ := r
    refine ⟨a, vs, n, e, ?_, x.keep _ _ hh, hr.mono x.up, hl⟩
    by_cases c : F' a = none
    · exact c
    · rw [x.fresh a hF c] at hh; cases hh

theorem Holds.ext {env : Env} {r : List (Str × Sl)} {F F' : PM} {h h' : Heap} (x : Ext F h F' h') (H : Holds env r F h) : Holds env r F' h' :=
  ⟨fun y t k => let ⟨v, a, b⟩ := H.var y t k; ⟨v, a.keeps x.keep, b.ext x⟩⟩

/-- the place where a value is handed on -/
noncomputable abbrev Post (F : PM) (s : Shared) (d : V) (Q : Value → Shared → Prop) : Prop :=
  ∀ v F' h' tk', Ext F s.heap F' h' → Rep F' v d → Q v { s with heap := h', toks := tk' }

structure Pre (C : Cx) (env : Env) (sc : Scope) (n : Nat) (A : Around) (r : List (Str × Sl)) (F : PM) (s : Shared) : Prop where
  ok : EnvOk env sc
  room : Room n A
  base : Sub C.b0.get? F
  le : Sub F s.heap.get?
  holds : Holds env r F s.heap

theorem Pre.next {C : Cx} {env : Env} {sc : Scope} {n : Nat} {A : Around} {r : List (Str × Sl)} {F F' : PM} {s : Shared} {h' : Heap} {tk' : Nat} (p : Pre C env sc n A r F s) (x : Ext F s.heap F' h') :
    Pre C env sc n A r F' { s with heap := h', toks := tk' } := ⟨p.ok, p.room, p.base.trans x.up, x.le, p.holds.ext x⟩

/-- an expression gives the datum -/
noncomputable def EV (C : Cx) (n : Nat) (sc : Scope) (r : List (Str × Sl)) (e : Expr) (d : V) : Prop :=
  ∀ (env : Env) (A : Around) (s : Shared) (F : PM), Pre C env sc n A r F s → ∀ (Q E : Value → Shared → Prop), Post F s d Q → wpAny C.M A (eval e env) Q E s

/-- a test comes out so -/
noncomputable def TS (C : Cx) (n : Nat) (sc : Scope) (r : List (Str × Sl)) (e : Expr) (b : Bool) : Prop :=
  ∀ (env : Env) (A : Around) (s : Shared) (F : PM), Pre C env sc n A r F s → ∀ (Q : Bool → Shared → Prop) (E : Value → Shared → Prop),
    (∀ F' h' tk', Ext F s.heap F' h' → Q b { s with heap := h', toks := tk' }) → wpAny C.M A (isTrue e env (eval e env)) Q E s

/-- arguments, items of a display -/
noncomputable def EVs (C : Cx) (n : Nat) (sc : Scope) (r : List (Str × Sl)) (es : List Expr) (ds : List V) : Prop :=
  ∀ (env : Env) (A : Around) (s : Shared) (F : PM), Pre C env sc n A r F s → ∀ (pos : Pos) (Q : List Value → Shared → Prop) (E : Value → Shared → Prop),
    (∀ vs F' h' tk', Ext F s.heap F' h' → Reps F' vs ds → Q vs { s with heap := h', toks := tk' }) → wpAny C.M A (spliced (backTo pos (starEach es env))) Q E s

theorem EVs.nil {C : Cx} {n : Nat} {sc : Scope} {r : List (Str × Sl)} : EVs C n sc r [] [] := by
  intro env A s F p pos Q E h
  exact args_nil (h [] F s.heap s.toks (Ext.refl p.le) Reps.nil)

theorem EVs.cons {C : Cx} {n : Nat} {sc : Scope} {r : List (Str × Sl)} {e : Expr} {es : List Expr} {d : V} {ds : List V} (h1 : EV C n sc r e d) (h2 : EVs C n sc r es ds)
    (he : ∀ env, starEach (e :: es) env = (false, eval e env) :: starEach es env := by intro _; rfl) : EVs C n sc r (e :: es) (d :: ds) := by
  intro env A s F p pos Q E h
  refine args_cons (h1 env A s F p _ _ fun v F1 h1' tk1 x1 r1 => ?_) (he env)
  exact h2 env A _ F1 (p.next x1) pos _ _ fun vs F2 h2' tk2 x2 r2 => h _ F2 h2' tk2 (x1.trans x2) (Reps.cons (r1.mono x2.up) r2)

section
variable {C : Cx} {n : Nat} {sc : Scope} {r : List (Str × Sl)}

theorem EV.cint {i : Int} {k : Nat} {pos : Pos} : EV C n sc r (.Constant (.int i) k pos) (.int i) := by
  intro env A s F p Q E h
  exact wpAny_Constant_int (h _ F s.heap _ (Ext.refl p.le) (by unfold Rep; exact ⟨_, rfl⟩))
theorem EV.cstr {x : Str} {k : Nat} {pos : Pos} : EV C n sc r (.Constant (.str x) k pos) (.str x) := by
  intro env A s F p Q E h
  exact wpAny_Constant_str (h _ F s.heap _ (Ext.refl p.le) (by unfold Rep; exact ⟨_, rfl⟩))
theorem EV.cbool {b : Bool} {k : Nat} {pos : Pos} : EV C n sc r (.Constant (.bool b) k pos) (.bool b) := by
  intro env A s F p Q E h
  exact wpAny_Constant_bool (h _ F s.heap s.toks (Ext.refl p.le) (by unfold Rep; rfl))
theorem EV.cnone {k : Nat} {pos : Pos} : EV C n sc r (.Constant .none k pos) .none := by
  intro env A s F p Q E h
  exact wpAny_Constant_none (h _ F s.heap s.toks (Ext.refl p.le) (by unfold Rep; rfl))

theorem loadVar {C : Cx} {A : Around} {s : Shared} {env : Env} {sc : Scope} {x : Str} {v : Value} {Q E : Value → Shared → Prop} (ok : EnvOk env sc) (a : VarAt env s.heap x v) (h : Q v s)
    (hn : (x == ("__classdict__" : Str)) = false) : wpAny C.M A (loadName env x) Q E s := by
  have hk : env.scope.kind = .function := by rw [ok.is]; exact ok.fk
  rcases a with ⟨e, m, hn', hm⟩ | ⟨e, c, hc, hv⟩
  · exact wpAny_loadName_local hk e hn' hm h
  · rcases e with e | e
    · exact wpAny_loadName_cell hk e hc hv h
    · exact wpAny_loadName_free hk e hc hv h hn

theorem EV.var {x : Str} {pos : Pos} {d : V} (k : LK r x (.val d)) (hd : (x == ("__debug__" : Str)) = false := by decide) (hn : (x == ("__classdict__" : Str)) = false := by decide) :
    EV C n sc r (.Name x pos) d := by
  intro env A s F p Q E h
  obtain ⟨v, a, b⟩ := p.holds.var x _ k
  exact wpAny_Name (loadVar p.ok a (h v F s.heap s.toks (Ext.refl p.le) b) hn) hd

theorem EnvOk.kind {env : Env} (ok : EnvOk env sc) (x : Str) : env.kindOf x = sc.names.lookup x := by rw [← ok.is]; rfl

theorem loadG {A : Around} {s : Shared} {F : PM} {env : Env} {x : Str} {v : Value} {Q E : Value → Shared → Prop} {pos : Pos} (p : Pre C env sc n A r F s) (hk : sc.names.lookup x = some .globalImplicit) (hv : C.mg x = some v) (h : Q v s)
    (hd : (x == ("__debug__" : Str)) = false := by decide) : wpAny C.M A (eval (.Name x pos) env) Q E s := by
  refine Name_function_global (by rw [p.ok.is]; exact p.ok.fk) (by rw [p.ok.kind]; exact hk) (loadGlobal_global (mg := C.mg) ?_ hv h) hd
  rw [p.ok.gl]; exact C.g.keeps (p.base.trans p.le)

theorem loadB {A : Around} {s : Shared} {F : PM} {env : Env} {x : Str} {v : Value} {Q E : Value → Shared → Prop} {pos : Pos} (p : Pre C env sc n A r F s) (hk : sc.names.lookup x = some .globalImplicit) (hg : C.mg x = none) (hv : bootBuiltins x = some v) (h : Q v s)
    (hnm : x ≠ "__name__" := by decide) (hd : (x == ("__debug__" : Str)) = false := by decide) : wpAny C.M A (eval (.Name x pos) env) Q E s := by
  refine Name_function_global (by rw [p.ok.is]; exact p.ok.fk) (by rw [p.ok.kind]; exact hk) (loadGlobal_builtin (mg := C.mg) (mb := C.mb) ?_ hg ?_ ((C.bi x hnm).trans hv) h) hd
  · rw [p.ok.gl]; exact C.g.keeps (p.base.trans p.le)
  · rw [p.ok.bt]; exact C.b.keeps (p.base.trans p.le)

theorem EV.glob {x : Str} {pos : Pos} {v : Value} {d : V} (hk : sc.names.lookup x = some .globalImplicit) (hv : C.mg x = some v) (hr : Rep C.b0.get? v d)
    (hd : (x == ("__debug__" : Str)) = false := by decide) : EV C n sc r (.Name x pos) d := by
  intro env A s F p Q E h
  exact loadG p hk hv (h v F s.heap s.toks (Ext.refl p.le) (hr.mono p.base)) hd

end
end Mine
end
section
open PySem PySem.W PyProof.Rows PySem.Calls
namespace Mine

noncomputable def PM.add (F : PM) (a : Addr) (o : Obj) : PM := fun b => if b = a then some o else F b
theorem PM.add_self {F : PM} {a : Addr} {o : Obj} : F.add a o a = some o := by unfold PM.add; rw [if_pos rfl]

theorem Ext.add {F : PM} {h h' : Heap} {a : Addr} {o : Obj} (le : Sub F h.get?) (k : Sub h.get? h'.get?) (ha : h'.get? a = some o) (hn : h.get? a = none) : Ext F h (F.add a o) h' := by
  have hF : F a = none := by
    cases q : F a with
    | none => rfl
    | some x => rw [le _ _ q] at hn; cases hn
  refine ⟨fun b ob e => ?_, fun b ob e => ?_, k, fun b e n => ?_⟩
  · unfold PM.add; by_cases c : b = a
    · subst c; rw [hF] at e; cases e
    · rw [if_neg c]; exact e
  · unfold PM.add at e; by_cases c : b = a
    · subst c; rw [if_pos rfl] at e; cases e; exact ha
    · rw [if_neg c] at e; exact k _ _ (le _ _ e)
  · unfold PM.add at n; by_cases c : b = a
    · subst c; exact hn
    · rw [if_neg c] at n; exact absurd e n

theorem push_keep (h : Heap) (o : Obj) : Sub h.get? (h.push o).get? := fun _ _ e => Heap.get?_push_of_some _ e
theorem fresh_size (h : Heap) : h.get? h.objs.size = none := Heap.get?_none_of_le (Nat.le_refl _)
theorem Ext.push {F : PM} {h : Heap} {o : Obj} (le : Sub F h.get?) (ho : o.isFreed = false) : Ext F h (F.add h.objs.size o) (h.push o) :=
  Ext.add le (push_keep h o) (Heap.get?_push_size _ ho) (fresh_size h)

theorem rep_tup {F : PM} {a : Addr} {vs : List Value} {ds : List V} (r : Reps F vs ds) (hF : F a = none) (hl : ds.length ≤ cap) : Rep (F.add a (tupO vs)) (.ref a) (.tup ds) := by
  unfold Rep
  refine ⟨a, vs, rfl, PM.add_self, r.mono (fun b o e => ?_), hl⟩
  unfold PM.add; by_cases c : b = a
  · subst c; rw [hF] at e; cases e
  · rw [if_neg c]; exact e
theorem rep_lst {F : PM} {a : Addr} {vs : List Value} {n : Nat} {ds : List V} (r : Reps F vs ds) (hF : F a = none) (hl : ds.length ≤ cap) : Rep (F.add a (lstO vs n)) (.ref a) (.lst ds) := by
  unfold Rep
  refine ⟨a, vs, n, rfl, PM.add_self, r.mono (fun b o e => ?_), hl⟩
  unfold PM.add; by_cases c : b = a
  · subst c; rw [hF] at e; cases e
  · rw [if_neg c]; exact e

theorem none_of_le {F : PM} {h : Heap} (le : Sub F h.get?) {a : Addr} (ha : h.get? a = none) : F a = none := by
  cases q : F a with
  | none => rfl
  | some x => rw [le _ _ q] at ha; cases ha

theorem Post.tup {F : PM} {s : Shared} {Q : Value → Shared → Prop} {vs : List Value} {ds : List V} (h : Post F s (.tup ds) Q) (le : Sub F s.heap.get?) (r : Reps F vs ds) (hl : ds.length ≤ cap) (tk : Nat) :
    Q (.ref s.heap.objs.size) { s with heap := s.heap.push (tupO vs), toks := tk } :=
  h _ _ _ _ (Ext.push le rfl) (rep_tup r (none_of_le le (fresh_size _)) hl)
theorem Post.lst {F : PM} {s : Shared} {Q : Value → Shared → Prop} {vs : List Value} {ds : List V} (h : Post F s (.lst ds) Q) (le : Sub F s.heap.get?) (r : Reps F vs ds) (hl : ds.length ≤ cap) (tk : Nat) :
    Q (.ref s.heap.objs.size) { s with heap := s.heap.push (lstO vs 0), toks := tk } :=
  h _ _ _ _ (Ext.push le rfl) (rep_lst r (none_of_le le (fresh_size _)) hl)

/-- two steps: the second's post within the first's -/
theorem Post.up {F F' : PM} {s : Shared} {h' : Heap} {tk' : Nat} {d : V} {Q : Value → Shared → Prop} (x : Ext F s.heap F' h') (h : Post F s d Q) : Post F' { s with heap := h', toks := tk' } d Q :=
  fun v F2 h2 tk2 x2 r2 => h v F2 h2 tk2 (x.trans x2) r2

section
variable {C : Cx} {n : Nat} {sc : Scope} {r : List (Str × Sl)}

theorem EV.tuple {es : List Expr} {k : Nat} {pos : Pos} {ds : List V} (h : EVs C n sc r es ds) (hl : ds.length ≤ cap := by decide) : EV C n sc r (.Tuple es k pos) (.tup ds) := by
  intro env A s F p Q E hq
  refine wpAny_Tuple_spliced (h env A s F p pos _ _ fun vs F1 h1 tk1 x1 r1 => ⟨?_, (hq.up x1).tup x1.le r1 hl tk1⟩)
  rw [r1.len, sizeLine_eq]; exact Nat.le_trans hl (by decide)
theorem EV.list {es : List Expr} {pos : Pos} {ds : List V} (h : EVs C n sc r es ds) (hl : ds.length ≤ cap := by decide) : EV C n sc r (.List es pos) (.lst ds) := by
  intro env A s F p Q E hq
  refine wpAny_List_spliced (h env A s F p pos _ _ fun vs F1 h1 tk1 x1 r1 => ⟨?_, (hq.up x1).lst x1.le r1 hl tk1⟩)
  rw [r1.len, sizeLine_eq]; exact Nat.le_trans hl (by decide)

/-- an operation on two values -/
noncomputable def BIN (C : Cx) (op : Operator) (a b c : V) : Prop :=
  ∀ (A : Around) (s : Shared) (F : PM), A.units < cLine → Sub C.b0.get? F → Sub F s.heap.get? → ∀ va vb, Rep F va a → Rep F vb b → ∀ (Q E : Value → Shared → Prop), Post F s c Q → wpAny C.M A (binaryOp op va vb) Q E s

theorem EV.bin {l e : Expr} {op : Operator} {pos : Pos} {a b c : V} (h1 : EV C n sc r l a) (h2 : EV C n sc r e b) (ho : BIN C op a b c) : EV C n sc r (.BinOp l op e pos) c := by
  intro env A s F p Q E hq
  refine wpAny_BinOp (h1 env A s F p _ _ fun v1 F1 h1' tk1 x1 r1 => ?_)
  refine h2 env A _ F1 (p.next x1) _ _ fun v2 F2 h2' tk2 x2 r2 => ?_
  exact ho A _ F2 p.room.unLt (p.base.trans (x1.up.trans x2.up)) x2.le v1 v2 (r1.mono x2.up) r2 Q E ((hq.up x1).up (tk' := tk2) x2)

theorem rep_int {F : PM} {i : Int} {t : Tok} : Rep F (.int i t) (.int i) := by unfold Rep; exact ⟨t, rfl⟩
theorem rep_bool {F : PM} {b : Bool} : Rep F (.bool b) (.bool b) := by unfold Rep; rfl
theorem rep_none {F : PM} : Rep F .none .none := by unfold Rep; rfl
theorem rep_str {F : PM} {x : Str} {t : Tok} : Rep F (.str x t) (.str x) := by unfold Rep; exact ⟨t, rfl⟩

theorem Post.int {F : PM} {s : Shared} {Q : Value → Shared → Prop} {i : Int} {t : Tok} {tk : Nat} (h : Post F s (.int i) Q) (le : Sub F s.heap.get?) : Q (.int i t) { s with toks := tk } := h _ F s.heap tk (Ext.refl le) rep_int
theorem Post.bool {F : PM} {s : Shared} {Q : Value → Shared → Prop} {b : Bool} {tk : Nat} (h : Post F s (.bool b) Q) (le : Sub F s.heap.get?) : Q (.bool b) { s with toks := tk } := h _ F s.heap tk (Ext.refl le) rep_bool

theorem BIN.add {a b : Int} : BIN C .Add (.int a) (.int b) (.int (a + b)) := by
  intro A s F _ _ le va vb ra rb Q E hq
  obtain ⟨t, rfl⟩ := (by unfold Rep at ra; exact ra : ∃ t, va = .int a t)
  obtain ⟨u, rfl⟩ := (by unfold Rep at rb; exact rb : ∃ t, vb = .int b t)
  exact P.add_int (hq.int le)
theorem BIN.sub {a b : Int} : BIN C .Sub (.int a) (.int b) (.int (a - b)) := by
  intro A s F _ _ le va vb ra rb Q E hq
  obtain ⟨t, rfl⟩ := (by unfold Rep at ra; exact ra : ∃ t, va = .int a t)
  obtain ⟨u, rfl⟩ := (by unfold Rep at rb; exact rb : ∃ t, vb = .int b t)
  exact P.sub_int (hq.int le)
theorem BIN.subb {a b : Bool} : BIN C .Sub (.bool a) (.bool b) (.int (b2i a - b2i b)) := by
  intro A s F _ _ le va vb ra rb Q E hq
  obtain rfl := (by unfold Rep at ra; exact ra : va = .bool a)
  obtain rfl := (by unfold Rep at rb; exact rb : vb = .bool b)
  exact sub_bool (hq.int le)

/-- the ints that are multiplied, divided and raised are no greater -/
noncomputable abbrev big : Nat := 2 ^ 1000
theorem log2_lt_of_lt {a : Nat} (h : a < big) (h0 : a ≠ 0) : a.log2 < 1000 := (Nat.log2_lt h0).mpr h
theorem bits_of_big {a : Int} (h : a.natAbs < big) : Builtin.Int.intBits a ≤ 2 ^ 20 := by
  unfold Builtin.Int.intBits
  split
  · decide
  · rename_i h0
    have : a.natAbs ≠ 0 := by simp at h0; omega
    have := log2_lt_of_lt h this
    omega

theorem BIN.mul {a b : Int} (ha : a.natAbs < big) (hb : b.natAbs < big) : BIN C .Mult (.int a) (.int b) (.int (a * b)) := by
  intro A s F _ _ le va vb ra rb Q E hq
  obtain ⟨t, rfl⟩ := (by unfold Rep at ra; exact ra : ∃ t, va = .int a t)
  obtain ⟨u, rfl⟩ := (by unfold Rep at rb; exact rb : ∃ t, vb = .int b t)
  exact P.mul_int (hq.int le) (IntMulOk.of_bits (bits_of_big ha) (bits_of_big hb))
theorem BIN.fdiv {a b : Int} (h0 : b ≠ 0) (hb : b.natAbs < big) : BIN C .FloorDiv (.int a) (.int b) (.int (a.fdiv b)) := by
  intro A s F _ _ le va vb ra rb Q E hq
  obtain ⟨t, rfl⟩ := (by unfold Rep at ra; exact ra : ∃ t, va = .int a t)
  obtain ⟨u, rfl⟩ := (by unfold Rep at rb; exact rb : ∃ t, vb = .int b t)
  refine floordiv_int h0 (hq.int le) (.inl (PyProof.noPylong_of_log2 ?_))
  have := log2_lt_of_lt hb (by omega)
  omega
theorem BIN.mod {a b : Int} (h0 : b ≠ 0) : BIN C .Mod (.int a) (.int b) (.int (a.fmod b)) := by
  intro A s F _ _ le va vb ra rb Q E hq
  obtain ⟨t, rfl⟩ := (by unfold Rep at ra; exact ra : ∃ t, va = .int a t)
  obtain ⟨u, rfl⟩ := (by unfold Rep at rb; exact rb : ∃ t, vb = .int b t)
  exact mod_int' h0 (hq.int le)
theorem BIN.pow {a k : Int} (h0 : 0 ≤ k) (hk : k ≤ 1000) (ha : a.natAbs < big) : BIN C .Pow (.int a) (.int k) (.int (a ^ k.toNat)) := by
  intro A s F _ _ le va vb ra rb Q E hq
  obtain ⟨t, rfl⟩ := (by unfold Rep at ra; exact ra : ∃ t, va = .int a t)
  obtain ⟨u, rfl⟩ := (by unfold Rep at rb; exact rb : ∃ t, vb = .int k t)
  refine pow_int h0 ?_ (hq.int le)
  have hb : Builtin.Int.intBits a ≤ 1000 := by
    unfold Builtin.Int.intBits
    split
    · decide
    · rename_i hz
      have : a.natAbs ≠ 0 := by simp at hz; omega
      have := log2_lt_of_lt ha this
      omega
  have h1 : (Builtin.Int.intBits a : Int) ≤ 1000 := by omega
  calc (Builtin.Int.intBits a : Int) * k ≤ 1000 * k := Int.mul_le_mul_of_nonneg_right h1 h0
    _ ≤ 1000 * 1000 := Int.mul_le_mul_of_nonneg_left hk (by decide)
    _ ≤ 2 ^ 27 := by decide

theorem isList {F : PM} {s : Shared} (le : Sub F s.heap.get?) {a : Addr} {vs : List Value} {m : Nat} (h : F a = some (lstO vs m)) : s.heap.IsList a vs.toArray := ⟨_, le _ _ h, rfl, m, rfl⟩
theorem isTup {F : PM} {s : Shared} (le : Sub F s.heap.get?) {a : Addr} {vs : List Value} (h : F a = some (tupO vs)) : IsTup s.heap a vs.toArray := ⟨_, le _ _ h, rfl, 0, rfl⟩

theorem BIN.addl {a b : List V} (hl : a.length + b.length ≤ cap) : BIN C .Add (.lst a) (.lst b) (.lst (a ++ b)) := by
  intro A s F _ _ le va vb ra rb Q E hq
  obtain ⟨l, vs, m, rfl, hl1, r1, c1⟩ := (by unfold Rep at ra; exact ra : ∃ l vs m, va = .ref l ∧ F l = some (lstO vs m) ∧ Reps F vs a ∧ a.length ≤ cap)
  obtain ⟨k, ws, m2, rfl, hl2, r2, c2⟩ := (by unfold Rep at rb; exact rb : ∃ l vs m, vb = .ref l ∧ F l = some (lstO vs m) ∧ Reps F vs b ∧ b.length ≤ cap)
  have e : vs.toArray ++ ws.toArray = (vs ++ ws).toArray := by simp
  have hsz : vs.toArray.size + ws.toArray.size ≤ sizeLine := by
    rw [List.size_toArray, List.size_toArray, r1.len, r2.len, sizeLine_eq]; exact Nat.le_trans hl (by decide)
  refine concat_meets ⟨_, le _ _ hl1, rfl⟩ ⟨_, le _ _ hl2, rfl⟩ noFill_list_add seq_list_add PySem.F.slot_list_add PySem.F.entry_list_add (PySem.F.args_list_add_2 _ _) (list_addW l k vs.toArray ws.toArray m m2 none none #[] #[] hsz) ⟨le _ _ hl1, le _ _ hl2, ?_⟩
  rw [e]
  exact hq.lst le (r1.append r2) (by rw [List.length_append]; exact hl) s.toks

end
end Mine
end
section
open PySem PySem.W PyProof.Rows PySem.Calls PySem.SeqAt
namespace Mine

mutual
noncomputable def toPy : V → PyData
  | .none => .none
  | .bool b => .bool b
  | .int i => .int i
  | .str s => .str s
  | .raw _ => .none
  | .tup l => .tuple (toPys l)
  | .lst l => .list (toPys l)
noncomputable def toPys : List V → List PyData
  | [] => []
  | d :: ds => toPy d :: toPys ds
end

mutual
noncomputable def noStr : V → Bool
  | .str _ => false
  | .raw _ => false
  | .tup l => noStrs l
  | .lst l => noStrs l
  | .none => true
  | .bool _ => true
  | .int _ => true
noncomputable def noStrs : List V → Bool
  | [] => true
  | d :: ds => noStr d && noStrs ds
end

mutual
theorem canLay_toPy : ∀ d : V, noStr d = true → (toPy d).canLay0 = true
  | .none, _ => rfl
  | .bool _, _ => rfl
  | .int _, _ => rfl
  | .str _, h => by unfold noStr at h; cases h
  | .raw _, h => by unfold noStr at h; cases h
  | .tup l, h => by unfold noStr at h; exact canLay_toPys l h
  | .lst l, h => by unfold noStr at h; exact canLay_toPys l h
theorem canLay_toPys : ∀ l : List V, noStrs l = true → PyData.canLayAll0 (toPys l) = true
  | [], _ => rfl
  | d :: ds, h => by
    unfold noStrs at h
    obtain ⟨h1, h2⟩ := Bool.and_eq_true_iff.mp h
    show (_ && _) = true
    rw [canLay_toPy d h1, canLay_toPys ds h2]; rfl
end

mutual
theorem Rep.reads {F : PM} {h : Heap} (le : Sub F h.get?) : ∀ {v : Value} {d : V}, Rep F v d → noStr d = true → ∃ as, Reads h v (toPy d) as
  | _, .none, r, _ => by unfold Rep at r; subst r; exact ⟨_, .none⟩
  | _, .bool b, r, _ => by unfold Rep at r; subst r; exact ⟨_, .bool b⟩
  | _, .int i, r, _ => by unfold Rep at r; obtain ⟨t, rfl⟩ := r; exact ⟨_, .int i t⟩
  | _, .str x, r, _ => by unfold Rep at r; obtain ⟨t, rfl⟩ := r; exact ⟨_, .str x t⟩
  | _, .raw _, _, hn => by unfold noStr at hn; cases hn
  | _, .tup l, r, hn => by
    unfold Rep at r
    unfold noStr at hn
    obtain ⟨a, vs, rfl, ha, hr, _⟩ := r
    obtain ⟨as, q⟩ := Reps.reads le hr hn
    exact ⟨_, .tuple (le _ _ ha) rfl rfl (by simpa using q)⟩
  | _, .lst l, r, hn => by
    unfold Rep at r
    unfold noStr at hn
    obtain ⟨a, vs, n, rfl, ha, hr, _⟩ := r
    obtain ⟨as, q⟩ := Reps.reads le hr hn
    exact ⟨_, .list (le _ _ ha) rfl rfl (by simpa using q)⟩
theorem Reps.reads {F : PM} {h : Heap} (le : Sub F h.get?) : ∀ {vs : List Value} {ds : List V}, Reps F vs ds → noStrs ds = true → ∃ as, ReadsAll h vs (toPys ds) as
  | _, [], r, _ => by unfold Reps at r; subst r; exact ⟨_, .nil⟩
  | _, d :: ds, r, hn => by
    unfold Reps at r
    unfold noStrs at hn
    obtain ⟨hn1, hn2⟩ := Bool.and_eq_true_iff.mp hn
    obtain ⟨v, rest, rfl, h1, h2⟩ := r
    obtain ⟨as, q1⟩ := Rep.reads le h1 hn1
    obtain ⟨bs, q2⟩ := Reps.reads le h2 hn2
    exact ⟨_, .cons q1 q2⟩
end

/-- a comparison of two values -/
noncomputable def CMP (C : Cx) (op : CmpOp) (a b : V) (r : Bool) : Prop :=
  ∀ (A : Around) (s : Shared) (F : PM), A.units + 64 < cLine → Sub C.b0.get? F → Sub F s.heap.get? → ∀ va vb, Rep F va a → Rep F vb b → ∀ (Q E : Value → Shared → Prop), Post F s (.bool r) Q → wpAny C.M A (compareOp op va vb) Q E s

section
variable {C : Cx} {n : Nat} {sc : Scope} {r : List (Str × Sl)}

theorem CMP.eqD {a b : V} {q : Bool} (na : noStr a = true) (nb : noStr b = true) (hd : min (toPy a).depth (toPy b).depth ≤ 60) (hq : PyData.eqv (toPy a) (toPy b) = q) : CMP C .Eq a b q := by
  intro A s F hu _ le va vb ra rb Q E h
  obtain ⟨as, ra'⟩ := ra.reads le na
  obtain ⟨bs, rb'⟩ := rb.reads le nb
  refine compareEq_reads ra' rb' (canLay_toPy a na) (canLay_toPy b nb) (by omega) ?_
  rw [hq]; exact h.bool le
theorem CMP.neD {a b : V} {q : Bool} (na : noStr a = true) (nb : noStr b = true) (hd : min (toPy a).depth (toPy b).depth ≤ 60) (hq : (!PyData.eqv (toPy a) (toPy b)) = q) : CMP C .NotEq a b q := by
  intro A s F hu _ le va vb ra rb Q E h
  obtain ⟨as, ra'⟩ := ra.reads le na
  obtain ⟨bs, rb'⟩ := rb.reads le nb
  refine compareNe_reads ra' rb' (canLay_toPy a na) (canLay_toPy b nb) (by omega) ?_
  rw [hq]; exact h.bool le

theorem CMP.eqI {a b : Int} : CMP C .Eq (.int a) (.int b) (a == b) := by
  intro A s F _ _ le va vb ra rb Q E h
  obtain ⟨t, rfl⟩ := (by unfold Rep at ra; exact ra : ∃ t, va = .int a t)
  obtain ⟨u, rfl⟩ := (by unfold Rep at rb; exact rb : ∃ t, vb = .int b t)
  exact P.eq_int (h.bool le)
theorem CMP.neI {a b : Int} : CMP C .NotEq (.int a) (.int b) (a != b) := by
  intro A s F _ _ le va vb ra rb Q E h
  obtain ⟨t, rfl⟩ := (by unfold Rep at ra; exact ra : ∃ t, va = .int a t)
  obtain ⟨u, rfl⟩ := (by unfold Rep at rb; exact rb : ∃ t, vb = .int b t)
  exact P.ne_int (h.bool le)
theorem CMP.ltI {a b : Int} : CMP C .Lt (.int a) (.int b) (decide (a < b)) := by
  intro A s F _ _ le va vb ra rb Q E h
  obtain ⟨t, rfl⟩ := (by unfold Rep at ra; exact ra : ∃ t, va = .int a t)
  obtain ⟨u, rfl⟩ := (by unfold Rep at rb; exact rb : ∃ t, vb = .int b t)
  exact P.lt_int (h.bool le)
theorem CMP.leI {a b : Int} : CMP C .LtE (.int a) (.int b) (decide (a ≤ b)) := by
  intro A s F _ _ le va vb ra rb Q E h
  obtain ⟨t, rfl⟩ := (by unfold Rep at ra; exact ra : ∃ t, va = .int a t)
  obtain ⟨u, rfl⟩ := (by unfold Rep at rb; exact rb : ∃ t, vb = .int b t)
  exact P.le_int (h.bool le)
theorem CMP.gtI {a b : Int} : CMP C .Gt (.int a) (.int b) (decide (b < a)) := by
  intro A s F _ _ le va vb ra rb Q E h
  obtain ⟨t, rfl⟩ := (by unfold Rep at ra; exact ra : ∃ t, va = .int a t)
  obtain ⟨u, rfl⟩ := (by unfold Rep at rb; exact rb : ∃ t, vb = .int b t)
  exact P.gt_int (h.bool le)
theorem CMP.geI {a b : Int} : CMP C .GtE (.int a) (.int b) (decide (b ≤ a)) := by
  intro A s F _ _ le va vb ra rb Q E h
  obtain ⟨t, rfl⟩ := (by unfold Rep at ra; exact ra : ∃ t, va = .int a t)
  obtain ⟨u, rfl⟩ := (by unfold Rep at rb; exact rb : ∃ t, vb = .int b t)
  exact P.ge_int (h.bool le)
theorem CMP.neS {a b : Str} : CMP C .NotEq (.str a) (.str b) (a.cps.toList != b.cps.toList) := by
  intro A s F _ _ le va vb ra rb Q E h
  obtain ⟨t, rfl⟩ := (by unfold Rep at ra; exact ra : ∃ t, va = .str a t)
  obtain ⟨u, rfl⟩ := (by unfold Rep at rb; exact rb : ∃ t, vb = .str b t)
  exact P.ne_str (h.bool le)
theorem CMP.notNoneT {l : List V} : CMP C .IsNot (.tup l) .none true := by
  intro A s F _ _ le va vb ra rb Q E h
  obtain ⟨a, vs, rfl, _⟩ := (by unfold Rep at ra; exact ra : ∃ a vs, va = .ref a ∧ F a = some (tupO vs) ∧ Reps F vs l ∧ l.length ≤ cap)
  obtain rfl := (by unfold Rep at rb; exact rb : vb = .none)
  exact wpAny_isNot_other (by rfl) (by intro e; cases e) (h.bool le)
theorem CMP.notNoneN : CMP C .IsNot .none .none false := by
  intro A s F _ _ le va vb ra rb Q E h
  obtain rfl := (by unfold Rep at ra; exact ra : va = .none)
  obtain rfl := (by unfold Rep at rb; exact rb : vb = .none)
  exact wpAny_isNot_self (by rfl) (h.bool le)

theorem EV.cmp {l e : Expr} {op : CmpOp} {pos : Pos} {a b : V} {q : Bool} (h1 : EV C n sc r l a) (h2 : EV C n sc r e b) (ho : CMP C op a b q)
    (hm : behindInMarks op e = false := by with_unfolding_all rfl) : EV C n sc r (.Compare l [op] [e] pos) (.bool q) := by
  intro env A s F p Q E hq
  refine wpAny_Compare1 (h1 env A s F p _ _ fun v1 F1 h1' tk1 x1 r1 => ?_) hm
  refine h2 env A _ F1 (p.next x1) _ _ fun v2 F2 h2' tk2 x2 r2 => ?_
  exact ho A _ F2 (by have := p.room.un; omega) (p.base.trans (x1.up.trans x2.up)) x2.le v1 v2 (r1.mono x2.up) r2 Q E ((hq.up x1).up (tk' := tk2) x2)

theorem TS.cmp {l e : Expr} {op : CmpOp} {pos : Pos} {a b : V} {q : Bool} (h1 : EV C n sc r l a) (h2 : EV C n sc r e b) (ho : CMP C op a b q)
    (hm : behindInMarks op e = false := by with_unfolding_all rfl) : TS C n sc r (.Compare l [op] [e] pos) q := by
  intro env A s F p Q E hq
  refine wpAny_isTrue_Compare1 (h1 env A s F p _ _ fun v1 F1 h1' tk1 x1 r1 => ?_) hm
  refine h2 env A _ F1 (p.next x1) _ _ fun v2 F2 h2' tk2 x2 r2 => ?_
  refine ho A _ F2 (by have := p.room.un; omega) (p.base.trans (x1.up.trans x2.up)) x2.le v1 v2 (r1.mono x2.up) r2 _ E fun v3 F3 h3 tk3 x3 r3 => ?_
  obtain rfl := (by unfold Rep at r3; exact r3 : v3 = .bool q)
  exact wpAny_truthy_bool (hq F3 h3 tk3 ((x1.trans x2).trans x3))

theorem TS.val {e : Expr} {q : Bool} (h : EV C n sc r e (.bool q)) (he : ∀ env whole, isTrue e env whole = (do let v ← whole; standAt e.pos; holding [v] (truthy v)) := by intro _ _; rfl) : TS C n sc r e q := by
  intro env A s F p Q E hq
  refine wpAny_isTrue_value (h env A s F p _ _ fun v F1 h1 tk1 x1 r1 => ?_) (he env _)
  obtain rfl := (by unfold Rep at r1; exact r1 : v = .bool q)
  exact wpAny_truthy_bool (hq F1 h1 tk1 x1)

theorem TS.not {e : Expr} {pos : Pos} {q : Bool} (h : TS C n sc r e q) : TS C n sc r (.UnaryOp .Not e pos) (!q) := by
  intro env A s F p Q E hq
  exact wpAny_isTrue_Not (h env A s F p _ _ hq)

theorem TS.and {x y : Expr} {pos : Pos} {a b : Bool} (h1 : TS C n sc r x a) (h2 : a = true → TS C n sc r y b) : TS C n sc r (.BoolOp .And [x, y] pos) (a && b) := by
  intro env A s F p Q E hq
  refine wpAny_isTrue_BoolOp (wpAny_allTrue_And_cons (h1 env A s F p _ _ fun F1 h1' tk1 x1 => ?_))
  cases a with
  | false => simp only [Bool.false_eq_true, if_false]; exact hq F1 h1' tk1 x1
  | true =>
    simp only [if_true]
    refine wpAny_allTrue_And_cons (h2 rfl env A _ F1 (p.next x1) _ _ fun F2 h2' tk2 x2 => ?_)
    have hq' := hq F2 h2' tk2 (x1.trans x2)
    cases b with
    | false => simp only [Bool.false_eq_true, if_false]; exact hq'
    | true => simp only [if_true]; exact wpAny_allTrue_And_nil hq'
theorem TS.or {x y : Expr} {pos : Pos} {a b : Bool} (h1 : TS C n sc r x a) (h2 : a = false → TS C n sc r y b) : TS C n sc r (.BoolOp .Or [x, y] pos) (a || b) := by
  intro env A s F p Q E hq
  refine wpAny_isTrue_BoolOp (wpAny_allTrue_Or_cons (h1 env A s F p _ _ fun F1 h1' tk1 x1 => ?_))
  cases a with
  | true => simp only [if_true]; exact hq F1 h1' tk1 x1
  | false =>
    simp only [Bool.false_eq_true, if_false]
    refine wpAny_allTrue_Or_cons (h2 rfl env A _ F1 (p.next x1) _ _ fun F2 h2' tk2 x2 => ?_)
    have hq' := hq F2 h2' tk2 (x1.trans x2)
    cases b with
    | true => simp only [if_true]; exact hq'
    | false => simp only [Bool.false_eq_true, if_false]; exact wpAny_allTrue_Or_nil hq'

theorem EV.and {x y : Expr} {pos : Pos} {a b : Bool} (h1 : EV C n sc r x (.bool a)) (h2 : a = true → EV C n sc r y (.bool b)) : EV C n sc r (.BoolOp .And [x, y] pos) (.bool (a && b)) := by
  intro env A s F p Q E hq
  refine wpAny_And2 (h1 env A s F p _ _ fun v F1 h1' tk1 x1 r1 => ?_)
  obtain rfl := (by unfold Rep at r1; exact r1 : v = .bool a)
  refine wpAny_truthy_bool ?_
  cases a with
  | false => simp only [Bool.false_eq_true, if_false]; exact hq _ F1 h1' tk1 x1 rep_bool
  | true =>
    simp only [if_true]
    exact h2 rfl env A _ F1 (p.next x1) _ _ fun v F2 h2' tk2 x2 r2 => hq v F2 h2' tk2 (x1.trans x2) r2

theorem EV.ifexp {t x y : Expr} {pos : Pos} {b : Bool} {d : V} (h : TS C n sc r t b) (h1 : b = true → EV C n sc r x d) (h2 : b = false → EV C n sc r y d) : EV C n sc r (.IfExp t x y pos) d := by
  intro env A s F p Q E hq
  refine wpAny_IfExp (h env A s F p _ _ fun F1 h1' tk1 x1 => ?_)
  cases b with
  | true => simp only [if_true]; exact h1 rfl env A _ F1 (p.next x1) _ _ (hq.up x1)
  | false => simp only [Bool.false_eq_true, if_false]; exact h2 rfl env A _ F1 (p.next x1) _ _ (hq.up x1)

theorem EV.neg {e : Expr} {pos : Pos} {a : Int} (h : EV C n sc r e (.int a)) : EV C n sc r (.UnaryOp .USub e pos) (.int (-a)) := by
  intro env A s F p Q E hq
  refine wpAny_UnaryOp (h env A s F p _ _ fun v F1 h1' tk1 x1 r1 => ?_)
  obtain ⟨t, rfl⟩ := (by unfold Rep at r1; exact r1 : ∃ t, v = .int a t)
  exact P.neg_int ((hq.up x1).int (s := { s with heap := h1', toks := tk1 }) x1.le)

noncomputable def itemAt (l : List V) (k : Int) : Option V := (seqIndex? k l.length).bind fun j => l[j]?

theorem itemAt_some {l : List V} {k : Int} {d : V} (h : itemAt l k = some d) : ∃ j, seqIndex? k l.length = some j ∧ l[j]? = some d := by
  unfold itemAt at h
  cases q : seqIndex? k l.length with
  | none => rw [q] at h; cases h
  | some j => rw [q] at h; exact ⟨j, rfl, h⟩

theorem seqIndex_some {k : Int} {m j : Nat} (h : seqIndex? k m = some j) : (0 ≤ k ∧ k < m ∧ j = k.toNat) ∨ (k < 0 ∧ -(m : Int) ≤ k ∧ j = (k + m).toNat) := by
  unfold seqIndex? at h
  by_cases hk : k < 0
  · rw [if_pos hk] at h
    dsimp only at h
    split at h
    · rename_i h1
      simp only [Bool.and_eq_true, decide_eq_true_eq] at h1
      cases h
      exact .inr ⟨hk, by omega, rfl⟩
    · cases h
  · rw [if_neg hk] at h
    dsimp only at h
    split at h
    · rename_i h1
      simp only [Bool.and_eq_true, decide_eq_true_eq] at h1
      cases h
      exact .inl ⟨by omega, h1.2, rfl⟩
    · cases h

theorem item_list {A : Around} {s : Shared} {F : PM} {l : Addr} {vs : List Value} {m : Nat} {ds : List V} {k : Int} {u : Tok} {d : V} {Q E : Value → Shared → Prop} (hl : s.heap.get? l = some (lstO vs m)) (hr : Reps F vs ds) (hc : ds.length ≤ cap)
    (hi : itemAt ds k = some d) (h : ∀ v, Rep F v d → Q v s) : wpAny C.M A (getItem (.ref l) (.int k u)) Q E s := by
  obtain ⟨j, h1, h2⟩ := itemAt_some hi
  obtain ⟨v, hv, rv⟩ := hr.get' h2
  have hL : s.heap.IsList l vs.toArray := ⟨_, hl, rfl, m, rfl⟩
  have hlen := hr.len
  unfold cap at hc
  rcases seqIndex_some h1 with ⟨a1, a2, rfl⟩ | ⟨a1, a2, rfl⟩
  · exact wpAny_getItem_list hL a1 (by omega) (by simpa using hv) (h v rv)
  · exact wpAny_getItem_list_neg hL a1 (by rw [List.size_toArray, hlen]; exact a2) (by omega) (by rw [List.size_toArray, hlen]; simpa using hv) (h v rv)

theorem item_tup {A : Around} {s : Shared} {F : PM} {l : Addr} {vs : List Value} {ds : List V} {k : Int} {u : Tok} {d : V} {Q E : Value → Shared → Prop} (hl : s.heap.get? l = some (tupO vs)) (hr : Reps F vs ds) (hc : ds.length ≤ cap)
    (hi : itemAt ds k = some d) (h : ∀ v, Rep F v d → Q v s) : wpAny C.M A (getItem (.ref l) (.int k u)) Q E s := by
  obtain ⟨j, h1, h2⟩ := itemAt_some hi
  obtain ⟨v, hv, rv⟩ := hr.get' h2
  have hL : IsTup s.heap l vs.toArray := ⟨_, hl, rfl, 0, rfl⟩
  have hlen := hr.len
  unfold cap at hc
  have hk : -(2 ^ 63) ≤ k ∧ k < 2 ^ 63 := by rcases seqIndex_some h1 with ⟨a1, a2, _⟩ | ⟨a1, a2, _⟩ <;> omega
  exact getItem_tuple hL hk.1 hk.2 (by rw [List.size_toArray, hlen]; exact h1) (by simpa using hv) (h v rv)

theorem EV.itemL {b i : Expr} {pos : Pos} {l : List V} {k : Int} {d : V} (h1 : EV C n sc r b (.lst l)) (h2 : EV C n sc r i (.int k)) (hi : itemAt l k = some d)
    (hs : ∀ o iv, subscripted i false o iv = operate [o, iv] (getItem o iv) := by intro _ _; rfl) : EV C n sc r (.Subscript b i pos) d := by
  intro env A s F p Q E hq
  refine Subscript_ (h1 env A s F p _ _ fun v1 F1 h1' tk1 x1 r1 => ?_)
  refine h2 env A _ F1 (p.next x1) _ _ fun v2 F2 h2' tk2 x2 r2 => ?_
  obtain ⟨t, rfl⟩ := (by unfold Rep at r2; exact r2 : ∃ t, v2 = .int k t)
  obtain ⟨a, vs, m, rfl, ha, hr, hc⟩ := (by unfold Rep at r1; exact r1 : ∃ a vs m, v1 = .ref a ∧ F1 a = some (lstO vs m) ∧ Reps F1 vs l ∧ l.length ≤ cap)
  have hl := x2.le _ _ (x2.up _ _ ha)
  unfold subscriptTail
  refine wpAny_bind ?_
  have hT : ({ s with heap := h2', toks := tk2 } : Shared).TypeIs (.ref a) "list" := ⟨_, hl, rfl⟩
  rw [getitemInPython_of_ne hT.not_modules]
  refine wpAny_bind (wpAny_specialOf hT slot_list_getitem.lookup ?_)
  have fin : wpAny C.M A (subscripted i false (.ref a) (.int k t)) (fun r s₃ => wpAny C.M A (letTemporaryGo b (.ref a) r >>= fun _ => pure r) Q E s₃) E { s with heap := h2', toks := tk2 } := by
    rw [hs]
    refine wpAny_operating (item_list (F := F2) hl (hr.mono x2.up) hc hi fun v rv => wpAny_bind (wpAny_letTemporaryGo (wpAny_pure ?_)))
    exact hq v F2 h2' tk2 (x1.trans x2) rv
  first
    | exact wpAny_pure (wpAny_bind fin)
    | exact wpAny_bind (wpAny_pure (wpAny_bind fin))
    | exact wpAny_bind fin

theorem EV.itemT {b i : Expr} {pos : Pos} {l : List V} {k : Int} {d : V} (h1 : EV C n sc r b (.tup l)) (h2 : EV C n sc r i (.int k)) (hi : itemAt l k = some d)
    (hs : ∀ o iv, subscripted i false o iv = operate [o, iv] (getItem o iv) := by intro _ _; rfl) : EV C n sc r (.Subscript b i pos) d := by
  intro env A s F p Q E hq
  refine Subscript_ (h1 env A s F p _ _ fun v1 F1 h1' tk1 x1 r1 => ?_)
  refine h2 env A _ F1 (p.next x1) _ _ fun v2 F2 h2' tk2 x2 r2 => ?_
  obtain ⟨t, rfl⟩ := (by unfold Rep at r2; exact r2 : ∃ t, v2 = .int k t)
  obtain ⟨a, vs, rfl, ha, hr, hc⟩ := (by unfold Rep at r1; exact r1 : ∃ a vs, v1 = .ref a ∧ F1 a = some (tupO vs) ∧ Reps F1 vs l ∧ l.length ≤ cap)
  have hl := x2.le _ _ (x2.up _ _ ha)
  unfold subscriptTail
  refine wpAny_bind ?_
  have hT : ({ s with heap := h2', toks := tk2 } : Shared).TypeIs (.ref a) "tuple" := ⟨_, hl, rfl⟩
  rw [getitemInPython_of_ne hT.not_modules]
  refine wpAny_bind (wpAny_specialOf hT slot_tuple_getitem.lookup ?_)
  have fin : wpAny C.M A (subscripted i false (.ref a) (.int k t)) (fun r s₃ => wpAny C.M A (letTemporaryGo b (.ref a) r >>= fun _ => pure r) Q E s₃) E { s with heap := h2', toks := tk2 } := by
    rw [hs]
    refine wpAny_operating (item_tup (F := F2) hl (hr.mono x2.up) hc hi fun v rv => wpAny_bind (wpAny_letTemporaryGo (wpAny_pure ?_)))
    exact hq v F2 h2' tk2 (x1.trans x2) rv
  first
    | exact wpAny_pure (wpAny_bind fin)
    | exact wpAny_bind (wpAny_pure (wpAny_bind fin))
    | exact wpAny_bind fin
end
end Mine
end
section
open PySem PySem.W PyProof.Rows PySem.Calls PySem.SeqAt
namespace Mine

section
variable {C : Cx} {n : Nat} {sc : Scope} {r : List (Str × Sl)}

theorem EV.sliceTo {b i : Expr} {sp pos : Pos} {l : List V} {k : Int} (h1 : EV C n sc r b (.lst l)) (h2 : EV C n sc r i (.int k)) (hk : 0 ≤ k)
    (ht : ∀ o rr, letTemporaryGo b o rr = pure () := by intro _ _; rfl) : EV C n sc r (.Subscript b (.Slice none (some i) none sp) pos) (.lst (l.take k.toNat)) := by
  intro env A s F p Q E hq
  refine wpAny_Subscript_list_slice (h1 env A s F p _ _ fun v1 F1 h1' tk1 x1 r1 => ?_) ht
  refine wpAny_evalPart_none (wpAny_evalPart_some (h2 env A _ F1 (p.next x1) _ _ fun v2 F2 h2' tk2 x2 r2 => ?_))
  obtain ⟨t, rfl⟩ := (by unfold Rep at r2; exact r2 : ∃ t, v2 = .int k t)
  obtain ⟨a, vs, m, rfl, ha, hr, hc⟩ := (by unfold Rep at r1; exact r1 : ∃ a vs m, v1 = .ref a ∧ F1 a = some (lstO vs m) ∧ Reps F1 vs l ∧ l.length ≤ cap)
  have hl := x2.le _ _ (x2.up _ _ ha)
  refine ⟨a, vs.toArray, none, some k, rfl, ⟨_, hl, rfl, m, rfl⟩, ?_, .none, .int k t, ?_⟩
  · rw [List.size_toArray, hr.len, sizeLine_eq]; exact Nat.le_trans hc (by decide)
  · obtain ⟨j, rfl⟩ := Int.eq_ofNat_of_zero_le hk
    rw [show slicePick vs.toArray none (some (j : Int)) none = (vs.take j).toArray by simpa using slicePick_upto' vs.toArray j]
    have e1 : Ext F2 h2' F2 (h2'.push { cls := .type "slice", data := .fields #[.none, .int (j : Int) t, .none] }) := Ext.of_keep x2.le (push_keep _ _)
    have hq2 := ((hq.up x1).up (tk' := tk2) x2).up (tk' := tk2) e1
    have := hq2.lst (vs := vs.take j) e1.le ((hr.mono x2.up).take j) (by rw [List.length_take]; omega) tk2
    rw [show (h2'.push { cls := .type "slice", data := .fields #[.none, .int (j : Int) t, .none] }).objs.size = h2'.objs.size + 1 from Heap.size_push ..] at this
    exact this

theorem EV.sliceFrom1 {b : Expr} {kd : Nat} {cp sp pos : Pos} {l : List V} {k : Nat} (h1 : EV C n sc r b (.lst l))
    (ht : ∀ o rr, letTemporaryGo b o rr = pure ()) : EV C n sc r (.Subscript b (.Slice (some (.Constant (.int (k : Int)) kd cp)) none none sp) pos) (.lst (l.drop k)) := by
  intro env A s F p Q E hq
  refine wpAny_Subscript_list_slice (h1 env A s F p _ _ fun v1 F1 h1' tk1 x1 r1 => ?_) ht
  refine wpAny_evalPart_some (wpAny_Constant_int (wpAny_evalPart_none ?_))
  obtain ⟨a, vs, m, rfl, ha, hr, hc⟩ := (by unfold Rep at r1; exact r1 : ∃ a vs m, v1 = .ref a ∧ F1 a = some (lstO vs m) ∧ Reps F1 vs l ∧ l.length ≤ cap)
  have hl := x1.le _ _ ha
  refine ⟨a, vs.toArray, some (k : Int), none, rfl, ⟨_, hl, rfl, m, rfl⟩, ?_, .int _ _, .none, ?_⟩
  · rw [List.size_toArray, hr.len, sizeLine_eq]; exact Nat.le_trans hc (by decide)
  · rw [show slicePick vs.toArray (some (k : Int)) none none = (vs.drop k).toArray by simpa using slicePick_from' vs.toArray k]
    have e1 : Ext F1 h1' F1 (h1'.push { cls := .type "slice", data := .fields #[.int (k : Int) tk1, .none, .none] }) := Ext.of_keep x1.le (push_keep _ _)
    have hq2 := (hq.up (tk' := tk1 + 1) x1).up (tk' := tk1 + 1) e1
    have := hq2.lst (vs := vs.drop k) e1.le (hr.drop k) (by rw [List.length_drop]; omega) (tk1 + 1)
    rw [show (h1'.push { cls := .type "slice", data := .fields #[.int (k : Int) tk1, .none, .none] }).objs.size = h1'.objs.size + 1 from Heap.size_push ..] at this
    exact this

/-- a call of a def of the text -/
noncomputable def CL (C : Cx) (n : Nat) (f : Addr) (ds : List V) (d : V) : Prop :=
  ∀ (A : Around) (s : Shared) (F : PM), Room n A → Sub C.b0.get? F → Sub F s.heap.get? → ∀ vs, Reps F vs ds → ∀ (Q E : Value → Shared → Prop), Post F s d Q → wpAny C.M A (call (.ref f) vs) Q E s
theorem CL.mono {m : Nat} {f : Addr} {ds : List V} {d : V} (h : CL C m f ds d) (hm : m ≤ n) : CL C n f ds d := fun A s F ro b le vs rs Q E hq => h A s F (ro.mono hm) b le vs rs Q E hq

/-- a call of a built-in -/
noncomputable def BI (C : Cx) (f : Value) (ds : List V) (d : V) : Prop :=
  ∀ (A : Around) (s : Shared) (F : PM), Room 0 A → Sub C.b0.get? F → Sub F s.heap.get? → ∀ vs, Reps F vs ds → ∀ (Q E : Value → Shared → Prop), Post F s d Q → wpAny C.M A (call f vs) Q E s

theorem EV.call {x : Str} {np pos : Pos} {e : Expr} {es : List Expr} {ds : List V} {d : V} {f : Addr} {o : Obj} {fd : FuncData} (hk : sc.names.lookup x = some .globalImplicit) (hv : C.mg x = some (.ref f))
    (ho : C.b0.get? f = some o) (hdat : o.data = .func fd) (ha : EVs C n sc r (e :: es) ds) (hc : CL C n f ds d)
    (he : ∀ env, starEach (e :: es) env = (false, eval e env) :: starEach es env := by intro _; rfl) (hd : (x == ("__debug__" : Str)) = false := by decide) :
    EV C n sc r (.Call (.Name x np) (e :: es) [] pos) d := by
  intro env A s F p Q E hq
  refine wpAny_Call_NameR (loadG p hk hv ?_ hd)
  refine callWith_def hdat (ha env A s F p pos _ _ fun vs F1 h1 tk1 x1 r1 => ⟨x1.le _ _ ((p.base.trans x1.up) _ _ ho), ?_⟩) (he env)
  exact hc A _ F1 p.room (p.base.trans x1.up) x1.le vs r1 Q E (hq.up x1)

theorem EV.callB {x : Str} {np pos : Pos} {e : Expr} {es : List Expr} {ds : List V} {d : V} {id : String} (hk : sc.names.lookup x = some .globalImplicit) (hg : C.mg x = none)
    (hv : bootBuiltins x = some (.builtin id)) (ha : EVs C n sc r (e :: es) ds) (hc : BI C (.builtin id) ds d)
    (he : ∀ env, starEach (e :: es) env = (false, eval e env) :: starEach es env := by intro _; rfl) (hp : ∀ env pos, (backTo pos (starEach es env)).any (·.1) = false := by intro _ _; rfl)
    (hnm : x ≠ "__name__" := by decide) (hd : (x == ("__debug__" : Str)) = false := by decide) :
    EV C n sc r (.Call (.Name x np) (e :: es) [] pos) d := by
  intro env A s F p Q E hq
  refine wpAny_Call_NameR (loadB p hk hg hv ?_ hnm hd)
  refine callWith_builtin1 (ha env A s F p pos _ _ fun vs F1 h1 tk1 x1 r1 => ?_) (he env) (hp env pos)
  exact hc A _ F1 (p.room.mono (Nat.zero_le _)) (p.base.trans x1.up) x1.le vs r1 Q E (hq.up x1)

theorem callWith_T {M : Model} {A : Around} {E : Value → Shared → Prop} {s : Shared} {env : Env} {pos : Pos} {T : String} {e : Expr} {rest : List Expr} {Q : Value → Shared → Prop}
    (h : wpAny M A (spliced (backTo pos (starEach (e :: rest) env))) (fun vs s₁ => wpAny M A (call (.type T) vs) Q E s₁) E s)
    (he : starEach (e :: rest) env = (false, eval e env) :: starEach rest env) (hplain : (backTo pos (starEach rest env)).any (·.1) = false) :
    wpAny M A (callWith pos (.type T) [] (backTo pos (starEach (e :: rest) env)) []) Q E s := by
  rw [he] at h ⊢
  exact PySem.callWith_type (by show (false || (backTo pos (starEach rest env)).any (·.1)) = false; rw [hplain]; rfl) (evalArgs_plain h)

theorem EV.callT {x : Str} {np pos : Pos} {e : Expr} {es : List Expr} {ds : List V} {d : V} {T : String} (hk : sc.names.lookup x = some .globalImplicit) (hg : C.mg x = none)
    (hv : bootBuiltins x = some (.type T)) (ha : EVs C n sc r (e :: es) ds) (hc : BI C (.type T) ds d)
    (he : ∀ env, starEach (e :: es) env = (false, eval e env) :: starEach es env := by intro _; rfl) (hp : ∀ env pos, (backTo pos (starEach es env)).any (·.1) = false := by intro _ _; rfl)
    (hnm : x ≠ "__name__" := by decide) (hd : (x == ("__debug__" : Str)) = false := by decide) :
    EV C n sc r (.Call (.Name x np) (e :: es) [] pos) d := by
  intro env A s F p Q E hq
  refine wpAny_Call_NameR (loadB p hk hg hv ?_ hnm hd)
  refine callWith_T (ha env A s F p pos _ _ fun vs F1 h1 tk1 x1 r1 => ?_) (he env) (hp env pos)
  exact hc A _ F1 (p.room.mono (Nat.zero_le _)) (p.base.trans x1.up) x1.le vs r1 Q E (hq.up x1)

theorem Reps.one {F : PM} {vs : List Value} {d : V} (h : Reps F vs [d]) : ∃ v, vs = [v] ∧ Rep F v d := by
  unfold Reps at h; obtain ⟨v, r, rfl, hv, hr⟩ := h; unfold Reps at hr; subst hr; exact ⟨v, rfl, hv⟩
theorem Reps.two {F : PM} {vs : List Value} {d e : V} (h : Reps F vs [d, e]) : ∃ v w, vs = [v, w] ∧ Rep F v d ∧ Rep F w e := by
  unfold Reps at h; obtain ⟨v, r, rfl, hv, hr⟩ := h; obtain ⟨w, rfl, hw⟩ := hr.one; exact ⟨v, w, rfl, hv, hw⟩
theorem Rep.int' {F : PM} {v : Value} {i : Int} (h : Rep F v (.int i)) : ∃ t, v = .int i t := by unfold Rep at h; exact h
theorem Rep.bool' {F : PM} {v : Value} {b : Bool} (h : Rep F v (.bool b)) : v = .bool b := by unfold Rep at h; exact h
theorem Rep.none' {F : PM} {v : Value} (h : Rep F v .none) : v = .none := by unfold Rep at h; exact h
theorem Rep.str' {F : PM} {v : Value} {x : Str} (h : Rep F v (.str x)) : ∃ t, v = .str x t := by unfold Rep at h; exact h
theorem Rep.lst' {F : PM} {v : Value} {l : List V} (h : Rep F v (.lst l)) : ∃ a vs m, v = .ref a ∧ F a = some (lstO vs m) ∧ Reps F vs l ∧ l.length ≤ cap := by unfold Rep at h; exact h
theorem Rep.tup' {F : PM} {v : Value} {l : List V} (h : Rep F v (.tup l)) : ∃ a vs, v = .ref a ∧ F a = some (tupO vs) ∧ Reps F vs l ∧ l.length ≤ cap := by unfold Rep at h; exact h

theorem BI.abs {a : Int} : BI C (.builtin "abs") [.int a] (.int (if a < 0 then -a else a)) := by
  intro A s F ro _ le vs rs Q E hq
  obtain ⟨v, rfl, rv⟩ := rs.one
  obtain ⟨t, rfl⟩ := rv.int'
  exact call_abs_int fun u tk => hq.int le
theorem BI.lenL {l : List V} : BI C (.builtin "len") [.lst l] (.int l.length) := by
  intro A s F ro _ le vs rs Q E hq
  obtain ⟨v, rfl, rv⟩ := rs.one
  obtain ⟨a, ws, m, rfl, ha, hr, hc⟩ := rv.lst'
  refine call_len_list (isList le ha) (by rw [List.size_toArray, hr.len]; unfold cap at hc; omega) ?_
  rw [List.size_toArray, hr.len]; exact hq.int le
theorem BI.lenT {l : List V} : BI C (.builtin "len") [.tup l] (.int l.length) := by
  intro A s F ro _ le vs rs Q E hq
  obtain ⟨v, rfl, rv⟩ := rs.one
  obtain ⟨a, ws, rfl, ha, hr, hc⟩ := rv.tup'
  refine PyProof.Rows.len_tuple (isTup le ha) (by rw [List.size_toArray, hr.len]; unfold cap at hc; omega) ?_
  rw [List.size_toArray, hr.len]; exact hq.int le
theorem BI.max2 {a b : Int} : BI C (.builtin "max") [.int a, .int b] (.int (if b > a then b else a)) := by
  intro A s F ro _ le vs rs Q E hq
  obtain ⟨v, w, rfl, rv, rw'⟩ := rs.two
  obtain ⟨t, rfl⟩ := rv.int'
  obtain ⟨u, rfl⟩ := rw'.int'
  refine max_two_ints ro.hh fun h' tk hk => ?_
  have x := Ext.of_keep le hk
  by_cases c : b > a
  · rw [if_pos c]; exact hq _ F h' tk x (by rw [if_pos c]; exact rep_int)
  · rw [if_neg c]; exact hq _ F h' tk x (by rw [if_neg c]; exact rep_int)
theorem BI.isStrT {l : List V} {x : V} (hx : False) : BI C (.builtin "isinstance") [.tup l, x] (.bool false) := hx.elim
theorem BI.listL {l : List V} : BI C (.type "list") [.lst l] (.lst l) := by
  intro A s F ro _ le vs rs Q E hq
  obtain ⟨v, rfl, rv⟩ := rs.one
  obtain ⟨a, ws, m, rfl, ha, hr, hc⟩ := rv.lst'
  refine call_list_seq a (T := "list") (.inl rfl) (le _ _ ha) rfl rfl (fun h' c' hk hn => ?_) (by rw [List.size_toArray, hr.len, sizeLine_eq]; exact Nat.le_trans hc (by decide))
  exact hq _ _ h' s.toks (Ext.add le hk hn (fresh_size _)) (rep_lst hr (none_of_le le (fresh_size _)) hc)
theorem BI.int {a : Int} {T : Prop} (hT : T) (h : ∀ (A : Around) (s : Shared) (t : Tok) (Q E : Value → Shared → Prop), T → (∀ u tk, Q (.int a u) { s with toks := tk }) → wpAny C.M A (call (.type "int") [.int a t]) Q E s) : BI C (.type "int") [.int a] (.int a) := by
  intro A s F ro _ le vs rs Q E hq
  obtain ⟨v, rfl, rv⟩ := rs.one
  obtain ⟨t, rfl⟩ := rv.int'
  exact h A s t Q E hT fun u tk => hq.int le
end
end Mine
end
section
open PySem PySem.W PyProof.Rows PySem.Calls PySem.SeqAt
namespace Mine

section
variable {C : Cx} {n : Nat} {sc : Scope} {r : List (Str × Sl)}

/-- an iterable: what its iterator walks over -/
noncomputable def IT (C : Cx) (n : Nat) (sc : Scope) (r : List (Str × Sl)) (e : Expr) (ds : List V) : Prop :=
  ∀ (env : Env) (A : Around) (s : Shared) (F : PM), Pre C env sc n A r F s → ∀ (Q E : Value → Shared → Prop),
    (∀ (I : Addr) (fp wr : List Addr) (P : Nat → Value → Prop) (St : Nat → Heap → Prop) (F' : PM) (h' : Heap) (tk' : Nat), Ext F s.heap F' h' → Walks C.prog C.w A I fp wr ds.length P St → St 0 h' →
      (∀ b ∈ fp, b < h'.objs.size) → (∀ b ∈ wr, F' b = none ∧ s.heap.get? b = none) → (∀ i h, St i h → ∀ b ∈ wr, h.get? b ≠ none) → (∀ b ∈ fp, b ∈ wr ∨ F' b ≠ none) → (∀ i v, i < ds.length → P i v → ∃ d, ds[i]? = some d ∧ Rep F' v d) → Q (.ref I) { s with heap := h', toks := tk' }) →
    wpAny C.M A (eval e env) (fun x s₁ => wpAny C.M A (pyIter x) Q E s₁) E s

theorem IT.list {e : Expr} {ds : List V} (h : EV C n sc r e (.lst ds)) : IT C n sc r e ds := by
  intro env A s F p Q E hq
  refine h env A s F p _ _ fun v F1 h1 tk1 x1 r1 => ?_
  obtain ⟨a, vs, m, rfl, ha, hr, hc⟩ := r1.lst'
  have hl : ({ s with heap := h1, toks := tk1 } : Shared).heap.IsList a vs.toArray := ⟨_, x1.le _ _ ha, rfl, m, rfl⟩
  have hlt : a < h1.objs.size := Heap.lt_size (x1.le _ _ ha)
  refine wpAny_pyIter_list hl ?_
  have e1 : Ext F1 h1 F1 (h1.push { cls := .type "list_iterator", data := .fields #[.ref a, .int 0 0] }) := Ext.of_keep x1.le (push_keep _ _)
  have W := Walks.list (prog := C.prog) (w := C.w) (A := A) p.room.hh h1.objs.size a (Nat.ne_of_lt hlt) vs.toArray
  have hsv : vs.toArray.size = ds.length := by rw [List.size_toArray]; exact hr.len
  rw [hsv] at W
  refine hq h1.objs.size _ _ _ _ F1 _ tk1 (x1.trans e1) W ⟨⟨_, Heap.get?_push_size _ rfl, rfl, rfl⟩, hl.push _⟩ (fun b hb => ?_) (fun b hb => ?_) (fun i h st b hb => ?_) (fun b hb => ?_) (fun i v _ hv => ?_)
  · rw [Heap.size_push]
    rcases List.mem_cons.mp hb with rfl | hb
    · exact Nat.lt_succ_self _
    · rcases List.mem_cons.mp hb with rfl | hb
      · exact Nat.lt_succ_of_lt hlt
      · cases hb
  · rcases List.mem_cons.mp hb with rfl | hb
    · refine ⟨none_of_le x1.le (fresh_size _), ?_⟩
      cases q : s.heap.get? h1.objs.size with
      | none => rfl
      | some o => have := x1.keep _ _ q; rw [fresh_size] at this; cases this
    · cases hb
  · rcases List.mem_cons.mp hb with rfl | hb
    · obtain ⟨o, ho, _⟩ := st.1
      rw [ho]; exact fun e => nomatch e
    · cases hb
  · rcases List.mem_cons.mp hb with rfl | hb
    · exact .inl (List.mem_cons_self ..)
    · rcases List.mem_cons.mp hb with rfl | hb
      · right; rw [ha]; exact fun e => nomatch e
      · cases hb
  · exact hr.get (by simpa using hv)

noncomputable def rangeV (a : Int) (k : Nat) : List V := (List.range k).map fun i : Nat => V.int (a + (i : Int))

theorem rangeV_len (a : Int) (k : Nat) : (rangeV a k).length = k := by simp [rangeV]
theorem rangeV_get {a : Int} {k i : Nat} (h : i < k) : (rangeV a k)[i]? = some (.int (a + (i : Int))) := by simp [rangeV, h]

theorem IT.ofRange {A : Around} {s : Shared} {F F1 : PM} {h1 : Heap} {tk1 : Nat} {a b : Int} {t u v : Tok} {k : Nat} {Q E : Value → Shared → Prop} (hh : A.handled = none) (x1 : Ext F s.heap F1 h1)
    (hsz : Builtin.Range.rangeSize a b 1 = (k : Int)) (hsm : Builtin.Range.small a b 1 = true)
    (hq : ∀ (I : Addr) (fp wr : List Addr) (P : Nat → Value → Prop) (St : Nat → Heap → Prop) (F' : PM) (h' : Heap) (tk' : Nat), Ext F s.heap F' h' → Walks C.prog C.w A I fp wr (rangeV a k).length P St → St 0 h' →
      (∀ b ∈ fp, b < h'.objs.size) → (∀ b ∈ wr, F' b = none ∧ s.heap.get? b = none) → (∀ i h, St i h → ∀ b ∈ wr, h.get? b ≠ none) → (∀ b ∈ fp, b ∈ wr ∨ F' b ≠ none) → (∀ i v, i < (rangeV a k).length → P i v → ∃ d, (rangeV a k)[i]? = some d ∧ Rep F' v d) → Q (.ref I) { s with heap := h', toks := tk' }) :
    wpAny C.M A (pyIter (.ref h1.objs.size)) Q E { s with heap := h1.push { cls := .type "range", data := .fields #[.int a t, .int b u, .int 1 v] }, toks := tk1 } := by
  refine wpAny_pyIter_range (IsRange.new _ a b 1 t u v) hsm ?_
  dsimp only
  generalize hH : h1.push { cls := .type "range", data := .fields #[.int a t, .int b u, .int 1 v] } = H
  have e1 : Ext F1 h1 F1 H := Ext.of_keep x1.le (hH ▸ push_keep _ _)
  rw [hsz]
  have e2 : Ext F1 H F1 (H.push { cls := .type "range_iterator", data := .fields #[rawInt a, rawInt (k : Int), rawInt 1] }) := Ext.of_keep e1.le (push_keep _ _)
  have W := Walks.range (prog := C.prog) (w := C.w) (A := A) hh H.objs.size a 1 k
  have x3 := (x1.trans e1).trans e2
  have hlen := rangeV_len a k
  refine hq H.objs.size [H.objs.size] [H.objs.size] _ _ F1 _ tk1 x3 (hlen.symm ▸ W) ?_ (fun b hb => ?_) (fun b hb => ?_) (fun i h st b hb => ?_) (fun b hb => .inl hb) (fun i v hi hv => ?_)
  · have e3 : a + ((0 : Nat) : Int) * 1 = a := by simp
    have e4 : (((rangeV a k).length : Nat) : Int) - ((0 : Nat) : Int) = (k : Int) := by rw [hlen]; simp
    rw [e3, e4]
    exact Heap.get?_push_size _ rfl
  · rcases List.mem_cons.mp hb with rfl | hb
    · rw [Heap.size_push]; exact Nat.lt_succ_self _
    · cases hb
  · rcases List.mem_cons.mp hb with rfl | hb
    · refine ⟨none_of_le e1.le (fresh_size _), ?_⟩
      cases q : s.heap.get? H.objs.size with
      | none => rfl
      | some o => have := (x1.trans e1).keep _ _ q; rw [fresh_size] at this; cases this
    · cases hb
  · rcases List.mem_cons.mp hb with rfl | hb
    · rw [show h.get? H.objs.size = some _ from st]; exact fun e => nomatch e
    · cases hb
  · obtain ⟨t', rfl⟩ := hv
    refine ⟨.int (a + i), rangeV_get (hlen ▸ hi), ?_⟩
    unfold Rep; exact ⟨t', by rw [Int.mul_one]⟩
end

/-- the cells a comprehension's scope takes along -/
noncomputable def clOf (g : Str → Addr) : List (Str × NameKind) → List (Str × Addr) → List (Str × Addr)
  | [], acc => acc
  | (y, k) :: rest, acc => clOf g rest (if k == .free then (y, g y) :: acc else acc)

theorem closure_go {env : Env} {g : Str → Addr} : ∀ (names : List (Str × NameKind)) (acc : List (Str × Addr)), (∀ y, (y, NameKind.free) ∈ names → env.cells.lookup y = some (g y)) →
    (forIn names acc (fun x cs => if (x.2 == NameKind.free) = true then (do let c ← cellOf env x.1; pure (ForInStep.yield ((x.1, c) :: cs))) else pure (ForInStep.yield cs)) : Sem (List (Str × Addr))) = pure (clOf g names acc)
  | [], acc, _ => by rw [List.forIn_nil]; rfl
  | (y, k) :: rest, acc, h => by
    rw [List.forIn_cons]
    unfold clOf
    by_cases hk : (k == NameKind.free) = true
    · have hk' : k = .free := by simpa using hk
      subst hk'
      simp only [hk, if_true]
      have hc : cellOf env y = pure (g y) := by unfold cellOf; rw [h y (List.mem_cons_self ..)]
      rw [hc]
      simp only [pure_bind]
      exact closure_go rest _ fun z hz => h z (List.mem_cons_of_mem _ hz)
    · simp only [hk, if_false, Bool.false_eq_true, pure_bind]
      exact closure_go rest _ fun z hz => h z (List.mem_cons_of_mem _ hz)

theorem closure_is {env : Env} {scope : Scope} {g : Str → Addr} (h : ∀ y, (y, NameKind.free) ∈ scope.names → env.cells.lookup y = some (g y)) : closureFor scope env = pure (clOf g scope.names []) := by
  have := closure_go (env := env) (g := g) scope.names [] h
  simp only [closureFor]
  rw [show (forIn scope.names [] fun x __s => if (x.2 == NameKind.free) = true then (do let __do_lift ← cellOf env x.1; pure (ForInStep.yield ((x.1, __do_lift) :: __s))) else pure (ForInStep.yield __s) : Sem (List (Str × Addr))) = pure (clOf g scope.names []) from this]
  rfl

theorem clOf_lookup {g : Str → Addr} {y : Str} : ∀ (names : List (Str × NameKind)) (acc : List (Str × Addr)), ((y, NameKind.free) ∈ names ∨ acc.lookup y = some (g y)) → (∀ e ∈ acc, e.2 = g e.1) →
    (clOf g names acc).lookup y = some (g y)
  | [], acc, h, _ => by
    rcases h with h | h
    · cases h
    · exact h
  | (z, k) :: rest, acc, h, ha => by
    unfold clOf
    by_cases hk : (k == NameKind.free) = true
    · rw [if_pos hk]
      refine clOf_lookup rest _ ?_ ?_
      · by_cases hz : y = z
        · right; subst hz; simp [List.lookup_cons]
        · have hb : (y == z) = false := beq_eq_false_iff_ne.mpr hz
          rcases h with h | h
          · rcases List.mem_cons.mp h with h | h
            · cases h; exact absurd rfl hz
            · exact .inl h
          · right; simp [List.lookup_cons, hb, h]
      · intro e he
        rcases List.mem_cons.mp he with rfl | he
        · rfl
        · exact ha e he
    · rw [if_neg hk]
      refine clOf_lookup rest _ ?_ ha
      rcases h with h | h
      · rcases List.mem_cons.mp h with h | h
        · cases h; simp at hk
        · exact .inl h
      · exact .inr h

noncomputable def relab (scope sc : Scope) : Scope :=
  { scope with names := scope.names.map fun (n, k) => if (k == .free && sc.kind == .function && sc.names.lookup n == some .cell) then (n, .cell) else (n, k) }
theorem relabel_eq {scope : Scope} {env : Env} {sc : Scope} (h : env.scope = sc) : relabel scope env = relab scope sc := by subst h; rfl

theorem lookup_relab_free {sc : Scope} (hk : sc.kind = .function) {y : Str} (hy : sc.names.lookup y = some .cell) : ∀ {names : List (Str × NameKind)}, names.lookup y = some .free →
    (names.map fun (n, k) => if (k == NameKind.free && sc.kind == .function && sc.names.lookup n == some .cell) then (n, NameKind.cell) else (n, k)).lookup y = some .cell
  | [], h => by simp at h
  | (z, k) :: rest, h => by
    show List.lookup y ((if (k == NameKind.free && sc.kind == .function && sc.names.lookup z == some .cell) = true then (z, NameKind.cell) else (z, k)) :: _) = _
    by_cases hz : y = z
    · subst hz
      simp [List.lookup_cons] at h
      subst h
      simp [hk, hy, List.lookup_cons]
    · have hb : (y == z) = false := beq_eq_false_iff_ne.mpr hz
      rw [List.lookup_cons, hb] at h
      have ih := lookup_relab_free hk hy h
      by_cases hc : (k == NameKind.free && sc.kind == .function && sc.names.lookup z == some .cell) = true
      · rw [if_pos hc, List.lookup_cons, hb]; exact ih
      · rw [if_neg hc, List.lookup_cons, hb]; exact ih

/-- a comprehension's tests: none, or one -/
noncomputable def IFS (C : Cx) (n : Nat) (sc : Scope) (r : List (Str × Sl)) (ifs : List Expr) (b : Bool) : Prop := (ifs = [] ∧ b = true) ∨ ∃ c, ifs = [c] ∧ TS C n sc r c b

theorem IFS.wp {C : Cx} {n : Nat} {sc : Scope} {r : List (Str × Sl)} {ifs : List Expr} {b : Bool} (h : IFS C n sc r ifs b) {env : Env} {A : Around} {s : Shared} {F : PM} (p : Pre C env sc n A r F s) {Q : Bool → Shared → Prop} {E : Value → Shared → Prop}
    (hq : ∀ F' h' tk', Ext F s.heap F' h' → Q b { s with heap := h', toks := tk' }) :
    wpAny C.M A (forIn ifs true fun c r => if r = true then do let ok ← isTrue c env (eval c env); pure (ForInStep.yield ok) else pure (ForInStep.yield r)) Q E s := by
  rcases h with ⟨rfl, rfl⟩ | ⟨c, rfl, hc⟩
  · exact wpAny_tests_nil (hq F s.heap s.toks (Ext.refl p.le))
  · exact wpAny_tests_one (hc env A s F p _ _ hq)

end Mine
end
section
open PySem PySem.W PyProof.Rows PySem.Calls PySem.SeqAt
namespace Mine

section
variable {C : Cx} {n : Nat} {sc : Scope} {r : List (Str × Sl)}

/-- what a comprehension's cell names hold -/
theorem comp_holds {env cenv : Env} {x : Str} {d : V} {v : Value} {rf : List (Str × Sl)} {F F3 : PM} {h h3 : Heap} {m : Str → Option Value} {cl : List (Str × Addr)} {scope : Scope}
    (H : Holds env r F h) (ok : EnvOk env sc) (hce : cenv.scope = relab scope sc) (hcc : cenv.cells = cl) (hkx : cenv.kindOf x = some .local) (hn : h3.Ns cenv.locals m) (hm : m x = some v) (rv : Rep F3 v d)
    (hrf : ∀ p ∈ rf, p.1 ≠ x ∧ LK r p.1 p.2 ∧ (∃ d, p.2 = .val d) ∧ scope.names.lookup p.1 = some .free ∧ sc.names.lookup p.1 = some .cell)
    (hcl : ∀ p ∈ rf, ∀ c, env.cells.lookup p.1 = some c → cl.lookup p.1 = some c) (up : Sub F F3) (hk : ∀ c v, h.IsCell c (some v) → h3.IsCell c (some v)) : Holds cenv ((x, .val d) :: rf) F3 h3 := by
  refine ⟨fun y t k => ?_⟩
  cases k with
  | here => exact ⟨v, .inl ⟨hkx, m, hn, hm⟩, rv⟩
  | next hne k =>
    have hp := hrf _ k.mem
    obtain ⟨w, a, b⟩ := H.var y t hp.2.1
    obtain ⟨d', hd'⟩ := hp.2.2.1
    dsimp only at hd'
    subst hd'
    refine ⟨w, ?_, Rep.mono up b⟩
    have kc : env.kindOf y = some .cell := by rw [ok.kind]; exact hp.2.2.2.2
    rcases a with ⟨e, _⟩ | ⟨_, c, hc, hv⟩
    · rw [kc] at e; cases e
    · refine .inr ⟨.inl ?_, c, ?_, hk c w hv⟩
      · show cenv.scope.names.lookup y = some .cell
        rw [hce]
        exact lookup_relab_free ok.fk hp.2.2.2.2 hp.2.2.2.1
      · rw [hcc]; exact hcl _ k.mem c hc

theorem EV.comp {elt iter : Expr} {x : Str} {px : Pos} {ifs : List Expr} {scope : Scope} {pos : Pos} (steps : List (V × Option V)) (rf : List (Str × Sl))
    (hit : IT C n sc r iter (steps.map (·.1)))
    (hcell : ∀ y ∈ scope.names, y.2 ≠ .cell) (hkind : scope.kind = .function)
    (hnames : ∀ y ∈ scope.names, y.2 = .local → scope.names.lookup y.1 = some .local) (hx : scope.names.lookup x = some .local)
    (hrf : ∀ p ∈ rf, p.1 ≠ x ∧ LK r p.1 p.2 ∧ (∃ d, p.2 = .val d) ∧ scope.names.lookup p.1 = some .free ∧ sc.names.lookup p.1 = some .cell)
    (hall : ∀ y, (y, NameKind.free) ∈ scope.names → ∃ t, (y, t) ∈ rf)
    (hb : ∀ st ∈ steps, IFS C n (relab scope sc) ((x, .val st.1) :: rf) ifs st.2.isSome ∧ ∀ o, st.2 = some o → EV C n (relab scope sc) ((x, .val st.1) :: rf) elt o)
    (hlen : steps.length ≤ cap)
    (hs : ∀ env y, foldedSetIterable iter env y = pure y := by intro _ _; rfl) :
    EV C n sc r (.ListComp elt [⟨.Name x px, iter, ifs, 0⟩] scope pos) (.lst (steps.filterMap (·.2))) := by
  intro env A s F p Q E hq
  have hg : ∀ y, (y, NameKind.free) ∈ scope.names → env.cells.lookup y = some ((env.cells.lookup y).getD 0) := by
    intro y hy
    obtain ⟨t, ht⟩ := hall y hy
    have hp := hrf _ ht
    obtain ⟨w, a, b⟩ := p.holds.var y t hp.2.1
    rcases a with ⟨e, _⟩ | ⟨_, c, hc, hv⟩
    · rw [p.ok.kind, hp.2.2.2.2] at e; cases e
    · rw [hc]; rfl
  have hclos := closure_is (scope := scope) hg
  generalize hcl : clOf (fun y => (env.cells.lookup y).getD 0) scope.names [] = cl at hclos
  have hclk : ∀ q ∈ rf, ∀ c, env.cells.lookup q.1 = some c → cl.lookup q.1 = some c := by
    intro q hqm c hc
    have h1 := clOf_lookup (g := fun y => (env.cells.lookup y).getD 0) (y := q.1) scope.names [] (.inl (mem_of_lookup (hrf q hqm).2.2.2.1)) (fun e he => nomatch he)
    rw [← hcl, h1, hc]; rfl
  rw [eval_ListComp]
  refine wpAny_comprehension_free (use := none) rfl (hs env) hclos hkind hnames ?_
  refine hit env A s F p _ E fun I fp wr P St F' h' tk' x0 W hst hfp hwr alive _ hP => ?_
  have W' : Walks C.prog C.w A I fp wr steps.length P St := by have := W; rwa [List.length_map] at this
  refine wpAny_newObj_type (wpAny_newFunctionEnv hcell (by intro y hy; simp at hy) (fun h₁ hns₁ hsb₁ => ?_) hkind)
  dsimp only at hns₁ hsb₁ ⊢
  generalize hH2 : h'.push { cls := .type "list", dict := none, data := .seq ([] : List Value).toArray } = H2 at hns₁ hsb₁ ⊢
  have hC : H2.objs.size = h'.objs.size + 1 := by rw [← hH2, Heap.size_push]
  have hDC : h'.objs.size ≠ H2.objs.size := by rw [hC]; exact Nat.ne_of_lt (Nat.lt_succ_self _)
  have below : ∀ b o, h'.get? b = some o → b ≠ H2.objs.size ∧ b ≠ h'.objs.size := fun b o e => ⟨by rw [hC]; exact Nat.ne_of_lt (Nat.lt_succ_of_lt (Heap.lt_size e)), Nat.ne_of_lt (Heap.lt_size e)⟩
  have hDf : h'.objs.size ∉ fp := fun hm => Nat.lt_irrefl _ (hfp _ hm)
  have hCf : H2.objs.size ∉ fp := fun hm => by have := hfp _ hm; rw [hC] at this; exact Nat.lt_irrefl _ (Nat.lt_of_succ_lt this)
  have hDw : h'.objs.size ∉ wr := fun hm => hDf (W'.sub _ hm)
  have hCw : H2.objs.size ∉ wr := fun hm => hCf (W'.sub _ hm)
  have old : ∀ b o, h'.get? b = some o → h₁.get? b = some o := fun b o e => hsb₁.extBut b o (below b o e).1 (Heap.get?_push_of_some _ (hH2 ▸ Heap.get?_push_of_some _ e))
  have hacc : h₁.get? h'.objs.size = some (lstO [] 0) := hsb₁.extBut _ _ hDC (Heap.get?_push_of_some _ (hH2 ▸ Heap.get?_push_size _ rfl))
  have hst₁ : St 0 h₁ := W'.frame _ _ _ hst fun b _ o e => old b o e
  have freshC : h'.get? H2.objs.size = none := Heap.get?_none_of_le (by rw [hC]; exact Nat.le_succ _)
  have hceq : ({ newEnv scope H2.objs.size env.globals cl env.qual none .none (some env) env.builtins with scope := relabel scope env } : Env) = compEnvC scope cl H2.objs.size env := rfl
  have hcs : (compEnvC scope cl H2.objs.size env).scope = relab scope sc := relabel_eq p.ok.is
  have hkx : (compEnvC scope cl H2.objs.size env).kindOf x = some .local := lookup_relabel_local hx
  have okc : EnvOk (compEnvC scope cl H2.objs.size env) (relab scope sc) := ⟨hcs, hkind, p.ok.gl, p.ok.bt⟩
  have loop : ∀ s₃ : Shared, s₃ = { s with heap := h₁, toks := tk' + ([] : List (Str × Value)).length } →
      codeAny C.M A (.compLoop (.ListComp elt [⟨.Name x px, iter, ifs, 0⟩] scope pos) 0 (.ref I) (.ref h'.objs.size) (compEnvC scope cl H2.objs.size env))
        (compPost C.M A E none Q (.ref h'.objs.size) H2.objs.size) s₃ := by
    rintro s₃ rfl
    refine codeAny_compLoop_tests
      (fun k s' => ∃ H tk m ys c i Φ, s' = { s with heap := H, toks := tk } ∧ St i H ∧ H.get? h'.objs.size = some (lstO ys c) ∧ H.Ns H2.objs.size m ∧ Reps Φ ys ((steps.take i).filterMap (·.2)) ∧
        i ≤ steps.length ∧ k = steps.length + 1 - i ∧ (∀ b o, b ∉ wr → h'.get? b = some o → H.get? b = some o) ∧ Sub F' Φ ∧ Sub Φ H.get? ∧ (∀ a, F' a = none → Φ a ≠ none → h'.get? a = none) ∧ Φ h'.objs.size = none ∧ Φ H2.objs.size = none) ?_ (steps.length + 1)
      ⟨h₁, _, _, [], 0, 0, F', rfl, hst₁, hacc, hns₁, by simpa using Reps.nil, Nat.zero_le _, rfl, fun b o _ e => old b o e, Sub.refl _, x0.le.trans old, fun a e ne => absurd e ne, none_of_le x0.le (fresh_size _), none_of_le x0.le freshC⟩
    rintro k s' ⟨H, tk, m, ys, c, i, Φ, rfl, hst', hacc', hn', hR, hi, rfl, hkeep, hup, hle, hfr, hΦD, hΦC⟩
    have hΦw : ∀ b ∈ wr, Φ b = none := fun b hb => by
      cases q : Φ b with
      | none => rfl
      | some o => exact absurd (hfr b (hwr b hb).1 (by rw [q]; exact fun e => nomatch e)) (alive _ _ hst b hb)
    by_cases hlt : i < steps.length
    · refine W'.item i _ _ _ hlt hst' fun v h2 tk2 hPv hst2 hk2 => ?_
      obtain ⟨d, hd, rv⟩ := hP i v (by rw [List.length_map]; exact hlt) hPv
      have hstep : ∃ o?, steps[i]? = some (d, o?) := by
        rw [List.getElem?_map] at hd
        cases q : steps[i]? with
        | none => rw [q] at hd; cases hd
        | some st => obtain ⟨d', o'⟩ := st; rw [q] at hd; cases hd; exact ⟨o', rfl⟩
      obtain ⟨o?, hstep⟩ := hstep
      have hmem : (d, o?) ∈ steps := List.mem_of_getElem? hstep
      refine wpAny_assign_Name (wpAny_storeName_local hkx (hn'.at' fun o e => hk2 _ o hCw e) (fun h3 hn3 hs3 => ?_) (by rw [hcs]; show (scope.kind == .class || (scope.kind == .module && _)) = false; rw [hkind]; rfl))
      have up3 : ∀ b o, b ≠ H2.objs.size → b ∉ wr → H.get? b = some o → h3.get? b = some o := fun b o hbC hbw e => hs3.extBut b o hbC (hk2 b o hbw e)
      have le3 : Sub Φ h3.get? := fun b o e => up3 b o (by rintro rfl; rw [hΦC] at e; cases e) (fun hb => by rw [hΦw b hb] at e; cases e) (hle b o e)
      have hold3 : ∀ b o, b ∉ wr → h'.get? b = some o → h3.get? b = some o := fun b o hbw e => up3 b o (below b o e).1 hbw (hkeep b o hbw e)
      have pre3 : Pre C (compEnvC scope cl H2.objs.size env) (relab scope sc) n A ((x, .val d) :: rf) Φ { s with heap := h3, toks := tk2 + 1 } := by
        refine ⟨okc, p.room, p.base.trans (x0.up.trans hup), le3, ?_⟩
        refine comp_holds (env := env) (cl := cl) (m := fun y => if y = x then some v else m y) (p.holds) p.ok hcs rfl hkx hn3 (by simp) (rv.mono hup) hrf hclk (x0.up.trans hup) ?_
        rintro c' w ⟨oc, hoc, hdc⟩
        refine ⟨oc, hold3 c' oc (fun hb => ?_) (x0.keep _ _ hoc), hdc⟩
        rw [(hwr c' hb).2] at hoc; cases hoc
      have hD3 : h3.get? h'.objs.size = some (lstO ys c) := up3 _ _ hDC hDw hacc'
      have hst3 : St (i + 1) h3 := W'.frame _ _ _ hst2 fun b hb o e => hs3.extBut b o (fun h => hCf ((show b = H2.objs.size from h) ▸ hb)) e
      refine (hb (d, o?) hmem).1.wp pre3 fun F4 h4 tk4 x4 => ?_
      have hst4 : St (i + 1) h4 := W'.frame _ _ _ hst3 fun b _ o e => x4.keep b o e
      have hD4 := x4.keep _ _ hD3
      have hn4 : h4.Ns H2.objs.size _ := hn3.keeps x4.keep
      have htake : (steps.take (i + 1)).filterMap (·.2) = (steps.take i).filterMap (·.2) ++ o?.toList := by
        rw [List.take_add_one, hstep, List.filterMap_append]
        cases o? <;> rfl
      have hfr4 : ∀ a, F' a = none → F4 a ≠ none → h'.get? a = none := fun a e ne => by
        by_cases cΦ : Φ a = none
        · have h3n := x4.fresh a cΦ ne
          by_cases hw : a ∈ wr
          · exact absurd h3n (alive _ _ hst3 a hw)
          · cases q : h'.get? a with
            | none => rfl
            | some o => rw [hold3 a o hw q] at h3n; cases h3n
        · exact hfr a e cΦ
      have new4 : ∀ a, Φ a = none → h3.get? a ≠ none → F4 a = none := fun a e ne => by
        by_cases q : F4 a = none
        · exact q
        · exact absurd (x4.fresh a e q) ne
      have hF4D : F4 h'.objs.size = none := new4 _ hΦD (by rw [hD3]; exact fun e => nomatch e)
      have hC3 : h3.get? H2.objs.size ≠ none := by obtain ⟨o, _, _, ho, _⟩ := hn3; rw [show h3.get? H2.objs.size = some o from ho]; exact fun e => nomatch e
      have hF4C : F4 H2.objs.size = none := new4 _ hΦC hC3
      cases o? with
      | none =>
        simp only [Option.isSome_none, Bool.false_eq_true, if_false]
        refine ⟨steps.length + 1 - (i + 1), by omega, h4, tk4, _, ys, c, i + 1, F4, rfl, hst4, hD4, hn4, ?_, hlt, rfl, fun b o hbw e => x4.keep _ _ (hold3 b o hbw e), hup.trans x4.up, x4.le, hfr4, hF4D, hF4C⟩
        rw [htake]; simpa using hR.mono x4.up
      | some o =>
        simp only [Option.isSome_some, if_true]
        refine (hb (d, some o) hmem).2 o rfl _ A _ F4 (pre3.next x4) _ _ fun y F5 h5 tk5 x5 r5 => ?_
        have hst5 : St (i + 1) h5 := W'.frame _ _ _ hst4 fun b _ o e => x5.keep b o e
        have hD5 := x5.keep _ _ hD4
        have hlen' : ys.length ≤ cap := by
          have e1 := hR.len
          have e2 : ((steps.take i).filterMap (·.2)).length ≤ (steps.take i).length := List.length_filterMap_le ..
          rw [List.length_take] at e2
          omega
        have hF5D : F5 h'.objs.size = none := by
          by_cases q : F5 h'.objs.size = none
          · exact q
          · have := x5.fresh _ hF4D q; rw [hD4] at this; cases this
        have hF5C : F5 H2.objs.size = none := by
          by_cases q : F5 H2.objs.size = none
          · exact q
          · have := x5.fresh _ hF4C q
            obtain ⟨o', _, _, ho', _⟩ := hn4; rw [ho'] at this; cases this
        refine wpAny_list_append_plain (items := ys.toArray) ⟨c, hD5⟩ (fun h6 hl6 hs6 => ?_) (by rw [List.size_toArray, sizeLine_eq]; exact Nat.le_trans hlen' (by decide))
        obtain ⟨c6, hD6⟩ := hl6
        have k6 : ∀ b o, b ≠ h'.objs.size → h5.get? b = some o → h6.get? b = some o := fun b o hbD e => hs6.extBut b o hbD e
        refine ⟨steps.length + 1 - (i + 1), by omega, h6, tk5, _, ys ++ [y], c6, i + 1, F5, rfl, ?_, ?_, (hn4.keeps x5.keep).sameBut hs6 (Ne.symm hDC), ?_, hlt, rfl, ?_, (hup.trans x4.up).trans x5.up, ?_, ?_, hF5D, hF5C⟩
        · exact W'.frame _ _ _ hst5 fun b hbf o e => k6 b o (fun h => hDf (h ▸ hbf)) e
        · simpa using hD6
        · rw [htake]; simpa using (hR.mono (x4.up.trans x5.up)).snoc r5
        · exact fun b o hbw e => k6 b o (below b o e).2 (x5.keep _ _ (x4.keep _ _ (hold3 b o hbw e)))
        · exact fun b o e => k6 b o (by rintro rfl; rw [hF5D] at e; cases e) (x5.le _ _ e)
        · intro a e ne
          by_cases c4 : F4 a = none
          · have h4n := x5.fresh a c4 ne
            by_cases hw : a ∈ wr
            · exact absurd h4n (alive _ _ hst4 a hw)
            · cases q : h'.get? a with
              | none => rfl
              | some o' => rw [x4.keep _ _ (hold3 a o' hw q)] at h4n; cases h4n
          · exact hfr4 a e c4
    · have hin : i = steps.length := by omega
      subst hin
      refine W'.done _ _ _ hst' fun h2 tk2 hk2 => ?_
      have hR' : Reps Φ ys (steps.filterMap (·.2)) := by rwa [List.take_length] at hR
      have hlen' : (steps.filterMap (·.2)).length ≤ cap := Nat.le_trans (List.length_filterMap_le ..) hlen
      have hD2 : h2.get? h'.objs.size = some (lstO ys c) := hk2 _ _ hDw hacc'
      refine ⟨m, hn'.at' fun o e => hk2 _ o hCw e, fun h3 hs3 => ?_⟩
      have hD3 : h3.get? h'.objs.size = some (lstO ys c) := hs3.extBut _ _ hDC hD2
      have keep3 : Sub s.heap.get? h3.get? := fun b o e => by
        have e0 := x0.keep b o e
        have hbw : b ∉ wr := fun hb => by rw [(hwr b hb).2] at e; cases e
        exact hs3.extBut b o (below b o e0).1 (hk2 b o hbw (hkeep b o hbw e0))
      have leΦ : Sub Φ h3.get? := fun b o e => hs3.extBut b o (by rintro rfl; rw [hΦC] at e; cases e) (hk2 b o (fun hb => by rw [hΦw b hb] at e; cases e) (hle b o e))
      have hsD : s.heap.get? h'.objs.size = none := by
        cases q : s.heap.get? h'.objs.size with
        | none => rfl
        | some o => have := x0.keep _ _ q; rw [fresh_size] at this; cases this
      refine hq (.ref h'.objs.size) (PM.add Φ h'.objs.size (lstO ys c)) h3 tk2 ⟨fun b o e => ?_, fun b o e => ?_, keep3, fun b e ne => ?_⟩ (rep_lst hR' hΦD hlen')
      · have e1 := hup b o (x0.up b o e)
        unfold PM.add
        by_cases cb : b = h'.objs.size
        · subst cb; rw [hΦD] at e1; cases e1
        · rw [if_neg cb]; exact e1
      · unfold PM.add at e
        by_cases cb : b = h'.objs.size
        · subst cb; rw [if_pos rfl] at e; cases e; exact hD3
        · rw [if_neg cb] at e; exact leΦ b o e
      · unfold PM.add at ne
        by_cases cb : b = h'.objs.size
        · subst cb; exact hsD
        · rw [if_neg cb] at ne
          by_cases c' : F' b = none
          · have := hfr b c' ne
            cases q : s.heap.get? b with
            | none => rfl
            | some o => rw [x0.keep _ _ q] at this; cases this
          · exact x0.fresh b e c'
  exact codeAny_compStart_list (loop _ rfl) (W'.self 0 _ _ _ hst₁ (loop _ rfl))
end
end Mine
end
section
open PySem PySem.W PyProof.Rows PySem.Calls PySem.SeqAt
namespace Mine

section
variable {C : Cx} {n : Nat} {sc : Scope} {r : List (Str × Sl)}

theorem compLoop_any {prog : Program} {w : World} {A : Around} {R : Result → Shared → Prop} {s : Shared} {elt target iter : Expr} {scope : Scope} {pos : Pos} {it acc : Value} {env : Env} (I : Nat → Shared → Prop)
    (turn : ∀ n s, I n s → ∀ E : Value → Shared → Prop, wpAny (model prog w) A (pyNext it) (fun r s₁ => match r with
      | none => R (.ok .next) s₁
      | some v => wpAny (model prog w) A (letOwnedTupleGo target it v) (fun _ s₁ => wpAny (model prog w) A (assign target env v) (fun _ s₂ =>
          wpAny (model prog w) A (eval elt env) (fun x s₄ =>
              wpAny (model prog w) A (call (.builtin "list.append") [acc, x]) (fun _ s₅ => ∃ m, m < n ∧ I m s₅) E s₄) E s₂) E s₁) E s₁) E s)
    (n : Nat) (h : I n s) :
    codeAny (model prog w) A (.compLoop (.ListComp elt [⟨target, iter, [], 0⟩] scope pos) 0 it acc env) R s := by
  refine codeAny_loop rfl I (fun n s hI => ?_) n h
  show wpAny _ A ((compTurn (.ListComp elt [⟨target, iter, [], 0⟩] scope pos) 0 it acc env).onRaise (fun x => do noteFrame x env; theTreesLotGoes x)) _ _ s
  refine wpAny_noted ?_
  rw [compTurn_list]
  refine wpAny_bind (wpAny_standAt (wpAny_bind (wpAny_mono (turn n s hI _) (fun r s₁ h₁ => ?_) fun _ _ h' => h')))
  cases r with
  | none => exact wpAny_pure h₁
  | some v =>
    refine wpAny_bind (wpAny_mono h₁ (fun _ s1 h1 => wpAny_bind (wpAny_mono h1 (fun _ s₂ h₂ => ?_) fun _ _ h' => h')) fun _ _ h' => h')
    refine wpAny_bind (wpAny_tests_nil ?_)
    simp only [if_true]
    exact wpAny_bind (wpAny_bind (wpAny_mono h₂ (fun x s₄ h₄ => wpAny_bind (wpAny_mono h₄ (fun _ s₅ h₅ => wpAny_pure (wpAny_pure ⟨rfl, h₅⟩)) fun _ _ h' => h')) fun _ _ h' => h'))

theorem EV.compE {elt e : Expr} {xa xb : Str} {pa pb tp np cp : Pos} {tk0 : Nat} {scope : Scope} {pos : Pos} (ds outs : List V) (rf : List (Str × Sl))
    (he : EV C n sc r e (.lst ds)) (hk : sc.names.lookup (Str.ofString "enumerate") = some .globalImplicit) (hg : C.mg "enumerate" = none) (hv : bootBuiltins "enumerate" = some (.type "enumerate"))
    (hse : ∀ env, starEach [e] env = [(false, eval e env)])
    (hcell : ∀ y ∈ scope.names, y.2 ≠ .cell) (hkind : scope.kind = .function)
    (hnames : ∀ y ∈ scope.names, y.2 = .local → scope.names.lookup y.1 = some .local) (hxa : scope.names.lookup xa = some .local) (hxb : scope.names.lookup xb = some .local) (hab : xa ≠ xb)
    (hrf : ∀ p ∈ rf, (p.1 ≠ xa ∧ p.1 ≠ xb) ∧ LK r p.1 p.2 ∧ (∃ d, p.2 = .val d) ∧ scope.names.lookup p.1 = some .free ∧ sc.names.lookup p.1 = some .cell)
    (hall : ∀ y, (y, NameKind.free) ∈ scope.names → ∃ t, (y, t) ∈ rf)
    (hlo : outs.length = ds.length)
    (hb : ∀ (i : Nat) d o, ds[i]? = some d → outs[i]? = some o → EV C n (relab scope sc) ((xb, .val d) :: (xa, .val (.int (i : Int))) :: rf) elt o) :
    EV C n sc r (.ListComp elt [⟨.Tuple [.Name xa pa, .Name xb pb] tk0 tp, .Call (.Name "enumerate" np) [e] [] cp, [], 0⟩] scope pos) (.lst outs) := by
  intro env A s F p Q E hq
  have hgc : ∀ y, (y, NameKind.free) ∈ scope.names → env.cells.lookup y = some ((env.cells.lookup y).getD 0) := by
    intro y hy
    obtain ⟨t, ht⟩ := hall y hy
    have hp := hrf _ ht
    obtain ⟨w, a, b⟩ := p.holds.var y t hp.2.1
    rcases a with ⟨e, _⟩ | ⟨_, c, hc, hv⟩
    · rw [p.ok.kind, hp.2.2.2.2] at e; cases e
    · rw [hc]; rfl
  have hclos := closure_is (scope := scope) hgc
  generalize hcl : clOf (fun y => (env.cells.lookup y).getD 0) scope.names [] = cl at hclos
  have hclk : ∀ q ∈ rf, ∀ c, env.cells.lookup q.1 = some c → cl.lookup q.1 = some c := by
    intro q hqm c hc
    have h1 := clOf_lookup (g := fun y => (env.cells.lookup y).getD 0) (y := q.1) scope.names [] (.inl (mem_of_lookup (hrf q hqm).2.2.2.1)) (fun e he => nomatch he)
    rw [← hcl, h1, hc]; rfl
  rw [eval_ListComp]
  refine wpAny_comprehension_free (use := none) rfl (fun _ => rfl) hclos hkind hnames ?_
  -- the source
  refine wpAny_Call_NameR (loadB p hk hg hv ?_ (by decide) (by decide))
  refine callWith_T ?_ (hse env) rfl
  rw [hse env]
  refine spliced_cons (he env A s F p _ _ fun v0 F0 h0 tk1 x0 r0 => spliced_nil ?_)
  obtain ⟨la, vs, ml, rfl, hla, hrl, hcl0⟩ := r0.lst'
  have hL0 : ({ s with heap := h0, toks := tk1 } : Shared).heap.IsList la vs.toArray := ⟨_, x0.le _ _ hla, rfl, ml, rfl⟩
  have hlt0 : la < h0.objs.size := Heap.lt_size (x0.le _ _ hla)
  refine call_enumerate_list hL0 fun h' hen hit hsz hkeep0 => ?_
  dsimp only at hen hit hsz hkeep0 ⊢
  refine wpAny_pyIter_enum (e := h0.objs.size + 1) hen ?_
  have xx : Ext F s.heap F0 h' := x0.trans (Ext.of_keep x0.le hkeep0)
  have hLi : h'.IsList la vs.toArray := ⟨_, hkeep0 _ _ (x0.le _ _ hla), rfl, ml, rfl⟩
  have W := WalksT.enumerate (prog := C.prog) (w := C.w) (A := A) p.room.hh (h0.objs.size + 1) h0.objs.size la (Nat.succ_ne_self _) (Nat.ne_of_lt (Nat.lt_succ_of_lt hlt0)) (Nat.ne_of_lt hlt0) vs.toArray
  have hvsz : vs.toArray.size = ds.length := by rw [List.size_toArray]; exact hrl.len
  rw [hvsz] at W
  have hfp : ∀ b ∈ [h0.objs.size + 1, h0.objs.size, la], b < h'.objs.size := by
    intro b hb; rw [hsz]
    simp only [List.mem_cons, List.not_mem_nil, or_false] at hb
    rcases hb with rfl | rfl | rfl
    · exact Nat.lt_succ_self _
    · exact Nat.lt_succ_of_lt (Nat.lt_succ_self _)
    · exact Nat.lt_succ_of_lt (Nat.lt_succ_of_lt hlt0)
  have hwrn : ∀ b ∈ [h0.objs.size + 1, h0.objs.size], h0.get? b = none := by
    intro b hb
    simp only [List.mem_cons, List.not_mem_nil, or_false] at hb
    rcases hb with rfl | rfl
    · exact Heap.get?_none_of_le (Nat.le_succ _)
    · exact fresh_size _
  generalize hwrE : [h0.objs.size + 1, h0.objs.size] = wr at W hwrn
  generalize hfpE : [h0.objs.size + 1, h0.objs.size, la] = fp at W hfp
  have alive : ∀ (i : Nat) h, ((∃ old, IsEnum h (h0.objs.size + 1) h0.objs.size i old) ∧ h.IsListIter h0.objs.size la i ∧ h.IsList la vs.toArray) → ∀ b ∈ wr, h.get? b ≠ none := by
    intro i h st b hb
    rw [← hwrE] at hb
    simp only [List.mem_cons, List.not_mem_nil, or_false] at hb
    rcases hb with rfl | rfl
    · obtain ⟨old, ho⟩ := st.1; rw [ho]; exact fun e => nomatch e
    · obtain ⟨o, ho, _⟩ := st.2.1; rw [ho]; exact fun e => nomatch e
  have hwr : ∀ b ∈ wr, F0 b = none ∧ s.heap.get? b = none := fun b hb => ⟨none_of_le x0.le (hwrn b hb), by
    cases q : s.heap.get? b with
    | none => rfl
    | some o => have := x0.keep _ _ q; rw [hwrn b hb] at this; cases this⟩
  have hst0 : (∃ old, IsEnum h' (h0.objs.size + 1) h0.objs.size ((0 : Nat) : Int) old) ∧ h'.IsListIter h0.objs.size la 0 ∧ h'.IsList la vs.toArray := ⟨⟨_, hen⟩, hit, hLi⟩
  generalize hSt : (fun (i : Nat) (h : Heap) => (∃ old, IsEnum h (h0.objs.size + 1) h0.objs.size i old) ∧ h.IsListIter h0.objs.size la i ∧ h.IsList la vs.toArray) = St at W
  have hst0' : St 0 h' := hSt ▸ hst0
  have alive' : ∀ i h, St i h → ∀ b ∈ wr, h.get? b ≠ none := fun i h st b hb => alive i h (by rw [← hSt] at st; exact st) b hb
  clear alive hst0 hSt hwrE hfpE
  refine wpAny_newObj_type (wpAny_newFunctionEnv hcell (by intro y hy; simp at hy) (fun h₁ hns₁ hsb₁ => ?_) hkind)
  dsimp only at hns₁ hsb₁ ⊢
  generalize hH2 : h'.push { cls := .type "list", dict := none, data := .seq ([] : List Value).toArray } = H2 at hns₁ hsb₁ ⊢
  have hC : H2.objs.size = h'.objs.size + 1 := by rw [← hH2, Heap.size_push]
  have hDC : h'.objs.size ≠ H2.objs.size := by rw [hC]; exact Nat.ne_of_lt (Nat.lt_succ_self _)
  have below : ∀ b o, h'.get? b = some o → b ≠ H2.objs.size ∧ b ≠ h'.objs.size := fun b o e => ⟨by rw [hC]; exact Nat.ne_of_lt (Nat.lt_succ_of_lt (Heap.lt_size e)), Nat.ne_of_lt (Heap.lt_size e)⟩
  have hDf : h'.objs.size ∉ fp := fun hm => Nat.lt_irrefl _ (hfp _ hm)
  have hCf : H2.objs.size ∉ fp := fun hm => by have := hfp _ hm; rw [hC] at this; exact Nat.lt_irrefl _ (Nat.lt_of_succ_lt this)
  have hDw : h'.objs.size ∉ wr := fun hm => hDf (W.sub _ hm)
  have hCw : H2.objs.size ∉ wr := fun hm => hCf (W.sub _ hm)
  have old : ∀ b o, h'.get? b = some o → h₁.get? b = some o := fun b o e => hsb₁.extBut b o (below b o e).1 (Heap.get?_push_of_some _ (hH2 ▸ Heap.get?_push_of_some _ e))
  have hacc : h₁.get? h'.objs.size = some (lstO [] 0) := hsb₁.extBut _ _ hDC (Heap.get?_push_of_some _ (hH2 ▸ Heap.get?_push_size _ rfl))
  have hst₁ : St 0 h₁ := W.frame _ _ _ hst0' fun b _ o e => old b o e
  have freshC : h'.get? H2.objs.size = none := Heap.get?_none_of_le (by rw [hC]; exact Nat.le_succ _)
  have hcs : (compEnvC scope cl H2.objs.size env).scope = relab scope sc := relabel_eq p.ok.is
  have hkxa : (compEnvC scope cl H2.objs.size env).kindOf xa = some .local := lookup_relabel_local hxa
  have hkxb : (compEnvC scope cl H2.objs.size env).kindOf xb = some .local := lookup_relabel_local hxb
  have okc : EnvOk (compEnvC scope cl H2.objs.size env) (relab scope sc) := ⟨hcs, hkind, p.ok.gl, p.ok.bt⟩
  have hkn : ((compEnvC scope cl H2.objs.size env).scope.kind == .class || ((compEnvC scope cl H2.objs.size env).scope.kind == .module && (compEnvC scope cl H2.objs.size env).locals != (compEnvC scope cl H2.objs.size env).globals)) = false := by
    rw [hcs]; show (scope.kind == .class || (scope.kind == .module && _)) = false; rw [hkind]; rfl
  have loop : ∀ s₃ : Shared, s₃ = { s with heap := h₁, toks := tk1 + ([] : List (Str × Value)).length } →
      codeAny C.M A (.compLoop (.ListComp elt [⟨.Tuple [.Name xa pa, .Name xb pb] tk0 tp, .Call (.Name "enumerate" np) [e] [] cp, [], 0⟩] scope pos) 0 (.ref (h0.objs.size + 1)) (.ref h'.objs.size) (compEnvC scope cl H2.objs.size env))
        (compPost C.M A E none Q (.ref h'.objs.size) H2.objs.size) s₃ := by
    rintro s₃ rfl
    refine compLoop_any
      (fun k s' => ∃ H tk m ys c i Φ, s' = { s with heap := H, toks := tk } ∧ St i H ∧ H.get? h'.objs.size = some (lstO ys c) ∧ H.Ns H2.objs.size m ∧ Reps Φ ys (outs.take i) ∧
        i ≤ ds.length ∧ k = ds.length + 1 - i ∧ (∀ b o, b ∉ wr → h'.get? b = some o → H.get? b = some o) ∧ Sub F0 Φ ∧ Sub Φ H.get? ∧ (∀ a, F0 a = none → Φ a ≠ none → h'.get? a = none) ∧ Φ h'.objs.size = none ∧ Φ H2.objs.size = none) ?_ (ds.length + 1)
      ⟨h₁, _, _, [], 0, 0, F0, rfl, hst₁, hacc, hns₁, by simpa using Reps.nil, Nat.zero_le _, rfl, fun b o _ e => old b o e, Sub.refl _, xx.le.trans old, fun a e ne => absurd e ne, none_of_le xx.le (fresh_size _), none_of_le xx.le freshC⟩
    rintro k s' ⟨H, tk, m, ys, c, i, Φ, rfl, hst', hacc', hn', hR, hi, rfl, hkeep, hup, hle, hfr, hΦD, hΦC⟩ E1
    have hΦw : ∀ b ∈ wr, Φ b = none := fun b hb => by
      cases q : Φ b with
      | none => rfl
      | some o => exact absurd (hfr b (hwr b hb).1 (by rw [q]; exact fun e => nomatch e)) (alive' _ _ hst0' b hb)
    by_cases hlt : i < ds.length
    · refine W.item i _ _ _ hlt hst' fun T vals h2 tk2 hPt hT hTup hMid hk2 => ?_
      obtain ⟨t0, xv, hxv, rfl⟩ := hPt
      obtain ⟨d, hd, rv⟩ := hrl.get (i := i) (by simpa using hxv)
      have hTw : T ∉ wr := W.apart _ _ _ hMid
      refine W.go _ _ _ i T _ _ _ hMid fun h3 hst3 hk3 => ?_
      have hTup3 : h3.IsTuple T #[.int (i : Int) t0, xv] := by obtain ⟨o, ho, r⟩ := hTup; exact ⟨o, hk3 T o hTw ho, r⟩
      refine wpAny_assign_Tuple p.room.hh hTup3 rfl rfl fun h4 hx4 => ?_
      show wpAny C.M A (do holding [xv] (assign (.Name xa pa) (compEnvC scope cl H2.objs.size env) (.int (i : Int) t0)); assignInOrder [assign (.Name xb pb) (compEnvC scope cl H2.objs.size env)] [xv]) _ _ _
      have hle3 : ∀ b o, b ∉ wr → H.get? b = some o → h3.get? b = some o := fun b o hb e => hk3 b o hb (hk2 b o hb e)
      have hle4 : ∀ b o, b ∉ wr → H.get? b = some o → h4.get? b = some o := fun b o hb e => hx4 b o (Nat.ne_of_lt (Heap.lt_size (hle3 b o hb e))) (hle3 b o hb e)
      have hst4 : St (i + 1) h4 := W.frame _ _ _ hst3 fun b _ o e => hx4 b o (Nat.ne_of_lt (Heap.lt_size e)) e
      refine wpAny_bind (wpAny_holding (wpAny_assign_Name (wpAny_storeName_local hkxa (hn'.at' fun o e => hle4 _ o hCw e) (fun h5 hn5 hs5 => ?_) hkn)))
      show wpAny C.M A (do holding [] (assign (.Name xb pb) (compEnvC scope cl H2.objs.size env) xv); assignInOrder [] []) _ _ _
      refine wpAny_bind (wpAny_holding (wpAny_assign_Name (wpAny_storeName_local hkxb hn5 (fun h6 hn6 hs6 => ?_) hkn)))
      refine wpAny_pure ?_
      have up6 : ∀ b o, b ≠ H2.objs.size → b ∉ wr → H.get? b = some o → h6.get? b = some o := fun b o hbC hbw e => hs6.extBut b o hbC (hs5.extBut b o hbC (hle4 b o hbw e))
      have le6 : Sub Φ h6.get? := fun b o e => up6 b o (by rintro rfl; rw [hΦC] at e; cases e) (fun hb => by rw [hΦw b hb] at e; cases e) (hle b o e)
      have hold6 : ∀ b o, b ∉ wr → h'.get? b = some o → h6.get? b = some o := fun b o hbw e => up6 b o (below b o e).1 hbw (hkeep b o hbw e)
      have hst6 : St (i + 1) h6 := W.frame _ _ _ hst4 fun b hb o e => hs6.extBut b o (fun h => hCf ((show b = H2.objs.size from h) ▸ hb)) (hs5.extBut b o (fun h => hCf ((show b = H2.objs.size from h) ▸ hb)) e)
      have hD6 : h6.get? h'.objs.size = some (lstO ys c) := up6 _ _ hDC hDw hacc'
      have pre6 : ∀ tk6, Pre C (compEnvC scope cl H2.objs.size env) (relab scope sc) n A ((xb, .val d) :: (xa, .val (.int (i : Int))) :: rf) Φ { s with heap := h6, toks := tk6 } := by
        intro tk6
        refine ⟨okc, p.room, p.base.trans (x0.up.trans hup), le6, ⟨fun y t k => ?_⟩⟩
        cases k with
        | here => exact ⟨xv, .inl ⟨hkxb, _, hn6, by simp⟩, rv.mono hup⟩
        | next hne k =>
          cases k with
          | here => exact ⟨.int (i : Int) t0, .inl ⟨hkxa, _, hn6, by simp [hab]⟩, (rep_int : Rep Φ _ _)⟩
          | next hne2 k =>
            have hp := hrf _ k.mem
            obtain ⟨w, a, b⟩ := p.holds.var y t hp.2.1
            obtain ⟨d', hd'⟩ := hp.2.2.1
            dsimp only at hd'
            subst hd'
            refine ⟨w, ?_, Rep.mono (x0.up.trans hup) b⟩
            have kc : env.kindOf y = some .cell := by rw [p.ok.kind]; exact hp.2.2.2.2
            rcases a with ⟨e, _⟩ | ⟨_, c', hc', ⟨oc, hoc, hdc⟩⟩
            · rw [kc] at e; cases e
            · refine .inr ⟨.inl ?_, c', hclk _ k.mem c' hc', oc, hold6 c' oc (fun hb => ?_) (xx.keep _ _ hoc), hdc⟩
              · show (compEnvC scope cl H2.objs.size env).scope.names.lookup y = some .cell
                rw [hcs]
                exact lookup_relab_free p.ok.fk hp.2.2.2.2 hp.2.2.2.1
              · rw [(hwr c' hb).2] at hoc; cases hoc
      have hfr6 : ∀ a, Φ a = none → h6.get? a = none → h'.get? a = none := fun a e h3n => by
        by_cases hw : a ∈ wr
        · exact absurd h3n (alive' _ _ hst6 a hw)
        · cases q : h'.get? a with
          | none => rfl
          | some o => rw [hold6 a o hw q] at h3n; cases h3n
      have hlo' : i < outs.length := by rw [hlo]; exact hlt
      have ho : outs[i]? = some outs[i] := List.getElem?_eq_getElem hlo'
      refine hb i d outs[i] hd ho _ A _ Φ (pre6 _) _ _ fun y F7 h7 tk7 x7 r7 => ?_
      have hst7 : St (i + 1) h7 := W.frame _ _ _ hst6 fun b _ o e => x7.keep b o e
      have hD7 := x7.keep _ _ hD6
      have hn7 := hn6.keeps x7.keep
      have hC6 : h6.get? H2.objs.size ≠ none := by obtain ⟨o, _, _, ho, _⟩ := hn6; rw [show h6.get? H2.objs.size = some o from ho]; exact fun e => nomatch e
      have new7 : ∀ a, Φ a = none → h6.get? a ≠ none → F7 a = none := fun a e ne => by
        by_cases q : F7 a = none
        · exact q
        · exact absurd (x7.fresh a e q) ne
      have hF7D : F7 h'.objs.size = none := new7 _ hΦD (by rw [hD6]; exact fun e => nomatch e)
      have hF7C : F7 H2.objs.size = none := new7 _ hΦC hC6
      have hlen' : ys.length ≤ cap := by
        have e1 := hR.len
        rw [List.length_take] at e1
        omega
      refine wpAny_list_append_plain (items := ys.toArray) ⟨c, hD7⟩ (fun h8 hl8 hs8 => ?_) (by rw [List.size_toArray, sizeLine_eq]; exact Nat.le_trans hlen' (by decide))
      obtain ⟨c8, hD8⟩ := hl8
      have k8 : ∀ b o, b ≠ h'.objs.size → h7.get? b = some o → h8.get? b = some o := fun b o hbD e => hs8.extBut b o hbD e
      refine ⟨ds.length + 1 - (i + 1), by omega, h8, tk7, _, ys ++ [y], c8, i + 1, F7, rfl, ?_, ?_, hn7.sameBut hs8 (Ne.symm hDC), ?_, hlt, rfl, ?_, hup.trans x7.up, ?_, ?_, hF7D, hF7C⟩
      · exact W.frame _ _ _ hst7 fun b hbf o e => k8 b o (fun h => hDf (h ▸ hbf)) e
      · simpa using hD8
      · rw [List.take_add_one, ho]; exact (hR.mono x7.up).snoc r7
      · exact fun b o hbw e => k8 b o (below b o e).2 (x7.keep _ _ (hold6 b o hbw e))
      · exact fun b o e => k8 b o (by rintro rfl; rw [hF7D] at e; cases e) (x7.le _ _ e)
      · intro a e ne
        by_cases c4 : Φ a = none
        · exact hfr6 a c4 (x7.fresh a c4 ne)
        · exact hfr a e c4
    · have hin : i = ds.length := by omega
      subst hin
      refine W.done _ _ _ hst' fun h2 tk2 hk2 => ?_
      have hR' : Reps Φ ys outs := by rwa [← hlo, List.take_length] at hR
      have hlen' : outs.length ≤ cap := by rw [hlo]; exact hcl0
      have hD2 : h2.get? h'.objs.size = some (lstO ys c) := hk2 _ _ hDw hacc'
      refine ⟨m, hn'.at' fun o e => hk2 _ o hCw e, fun h3 hs3 => ?_⟩
      have hD3 : h3.get? h'.objs.size = some (lstO ys c) := hs3.extBut _ _ hDC hD2
      have keep3 : Sub s.heap.get? h3.get? := fun b o e => by
        have e0 := xx.keep b o e
        have hbw : b ∉ wr := fun hb => by rw [(hwr b hb).2] at e; cases e
        exact hs3.extBut b o (below b o e0).1 (hk2 b o hbw (hkeep b o hbw e0))
      have leΦ : Sub Φ h3.get? := fun b o e => hs3.extBut b o (by rintro rfl; rw [hΦC] at e; cases e) (hk2 b o (fun hb => by rw [hΦw b hb] at e; cases e) (hle b o e))
      have hsD : s.heap.get? h'.objs.size = none := by
        cases q : s.heap.get? h'.objs.size with
        | none => rfl
        | some o => have := xx.keep _ _ q; rw [fresh_size] at this; cases this
      refine hq (.ref h'.objs.size) (PM.add Φ h'.objs.size (lstO ys c)) h3 tk2 ⟨fun b o e => ?_, fun b o e => ?_, keep3, fun b e ne => ?_⟩ (rep_lst hR' hΦD hlen')
      · have e1 := hup b o (x0.up b o e)
        unfold PM.add
        by_cases cb : b = h'.objs.size
        · subst cb; rw [hΦD] at e1; cases e1
        · rw [if_neg cb]; exact e1
      · unfold PM.add at e
        by_cases cb : b = h'.objs.size
        · subst cb; rw [if_pos rfl] at e; cases e; exact hD3
        · rw [if_neg cb] at e; exact leΦ b o e
      · unfold PM.add at ne
        by_cases cb : b = h'.objs.size
        · subst cb; exact hsD
        · rw [if_neg cb] at ne
          by_cases c' : F0 b = none
          · have := hfr b c' ne
            cases q : s.heap.get? b with
            | none => rfl
            | some o => rw [xx.keep _ _ q] at this; cases this
          · exact xx.fresh b e c'
  exact codeAny_compStart_list (loop _ rfl) (W.self 0 _ _ _ hst₁ (loop _ rfl))
end
end Mine
end
section
open PySem PySem.W PyProof.Rows PySem.Calls PySem.SeqAt
namespace Mine

/-- the light part of a frame's state: G is what must stay as it is, F0 what was frozen at the entry -/
structure Lt (C : Cx) (G F0 F : PM) (h : Heap) : Prop where
  base : Sub C.b0.get? F
  le : Sub F h.get?
  keep : Sub G h.get?
  up : Sub F0 F
  new : ∀ a, F0 a = none → F a ≠ none → G a = none

theorem Lt.ext {C : Cx} {G F0 F F' : PM} {h h' : Heap} (l : Lt C G F0 F h) (x : Ext F h F' h') : Lt C G F0 F' h' :=
  ⟨l.base.trans x.up, x.le, l.keep.trans x.keep, l.up.trans x.up, fun a e ne => by
    by_cases c : F a = none
    · have := x.fresh a c ne
      cases q : G a with
      | none => rfl
      | some o => rw [l.keep _ _ q] at this; cases this
    · exact l.new a e c⟩

noncomputable def OwnAt (env : Env) (F G : PM) (h : Heap) (x : Str) (a : Addr) (ds : List V) : Prop :=
  VarAt env h x (.ref a) ∧ F a = none ∧ G a = none ∧ ∃ vs k, h.get? a = some (lstO vs k) ∧ Reps F vs ds ∧ ds.length ≤ cap

structure Fst (C : Cx) (G F0 : PM) (env : Env) (sc : Scope) (r : List (Str × Sl)) (F : PM) (h : Heap) : Prop where
  ok : EnvOk env sc
  lt : Lt C G F0 F h
  loc : F env.locals = none ∧ G env.locals = none ∧ ∃ m, h.Ns env.locals m
  cell : ∀ y c, env.cells.lookup y = some c → F c = none ∧ G c = none ∧ ∃ v, h.IsCell c v
  apart : ∀ y z c, env.cells.lookup y = some c → env.cells.lookup z = some c → y = z
  hasc : ∀ x, sc.names.lookup x = some .cell → (env.cells.lookup x).isSome = true
  vals : ∀ x d, LK r x (.val d) → ∃ v, VarAt env h x v ∧ Rep F v d
  own : ∃ oa : Str → Addr, (∀ y ds, LK r y (.own ds) → OwnAt env F G h y (oa y) ds) ∧ ∀ y z ds es, LK r y (.own ds) → LK r z (.own es) → oa y = oa z → y = z

theorem Fst.holds {C : Cx} {G F0 F : PM} {env : Env} {sc : Scope} {r : List (Str × Sl)} {h : Heap} (S : Fst C G F0 env sc r F h) : Holds env r F h := by
  refine ⟨fun x t k => ?_⟩
  cases t with
  | val d => exact S.vals x d k
  | own ds =>
    obtain ⟨oa, h1, _⟩ := S.own
    obtain ⟨a, b, _, vs, n, e, f, g⟩ := h1 x ds k
    exact ⟨_, a, oa x, vs, n, rfl, b, e, f, g⟩

theorem Fst.pre {C : Cx} {G F0 F : PM} {env : Env} {sc : Scope} {r : List (Str × Sl)} {s : Shared} {n : Nat} {A : Around} (S : Fst C G F0 env sc r F s.heap) (ro : Room n A) : Pre C env sc n A r F s :=
  ⟨S.ok, ro, S.lt.base, S.lt.le, S.holds⟩

theorem none_after {F F' : PM} {h h' : Heap} (x : Ext F h F' h') {a : Addr} (hF : F a = none) (hh : h.get? a ≠ none) : F' a = none := by
  by_cases c : F' a = none
  · exact c
  · exact absurd (x.fresh a hF c) hh

theorem OwnAt.ext {env : Env} {F F' G : PM} {h h' : Heap} {x : Str} {a : Addr} {ds : List V} (o : OwnAt env F G h x a ds) (e : Ext F h F' h') : OwnAt env F' G h' x a ds := by
  obtain ⟨p1, p2, p3, vs, k, p4, p5, p6⟩ := o
  exact ⟨p1.keeps e.keep, none_after e p2 (by rw [p4]; exact fun q => nomatch q), p3, vs, k, e.keep _ _ p4, p5.mono e.up, p6⟩

theorem Fst.ext {C : Cx} {G F0 F F' : PM} {env : Env} {sc : Scope} {r : List (Str × Sl)} {h h' : Heap} (S : Fst C G F0 env sc r F h) (x : Ext F h F' h') : Fst C G F0 env sc r F' h' := by
  refine ⟨S.ok, S.lt.ext x, ?_, ?_, S.apart, S.hasc, ?_, ?_⟩
  · obtain ⟨a, b, m, hn⟩ := S.loc
    exact ⟨none_after x a (by obtain ⟨o, _, _, ho, _⟩ := hn; rw [ho]; exact fun q => nomatch q), b, m, hn.keeps x.keep⟩
  · intro y c hc
    obtain ⟨a, b, v, hv⟩ := S.cell y c hc
    exact ⟨none_after x a (by obtain ⟨o, ho, _⟩ := hv; rw [ho]; exact fun q => nomatch q), b, v, hv.keeps x.keep⟩
  · intro y d k
    obtain ⟨v, a, b⟩ := S.vals y d k
    exact ⟨v, a.keeps x.keep, b.mono x.up⟩
  · obtain ⟨oa, h1, h2⟩ := S.own
    exact ⟨oa, fun y ds k => (h1 y ds k).ext x, h2⟩

noncomputable def UPD (r : List (Str × Sl)) (x : Str) (t : Sl) (r' : List (Str × Sl)) : Prop := ∀ y u, LK r' y u → (y = x ∧ u = t) ∨ (y ≠ x ∧ LK r y u)
theorem UPD.nil {x : Str} {t : Sl} : UPD [] x t [(x, t)] := fun y u k => by
  cases k with
  | here => exact .inl ⟨rfl, rfl⟩
  | next _ k => cases k
theorem UPD.here {r : List (Str × Sl)} {x : Str} {t u : Sl} : UPD ((x, u) :: r) x t ((x, t) :: r) := fun y w k => by
  cases k with
  | here => exact .inl ⟨rfl, rfl⟩
  | next hne k => exact .inr ⟨hne, .next hne k⟩
theorem UPD.next {r r' : List (Str × Sl)} {x y : Str} {t u : Sl} (hne : y ≠ x) (h : UPD r x t r') : UPD ((y, u) :: r) x t ((y, u) :: r') := fun z w k => by
  cases k with
  | here => exact .inr ⟨hne, .here⟩
  | next hz k => exact (h z w k).imp id fun ⟨a, b⟩ => ⟨a, .next hz b⟩
/-- a name is dropped from what is known -/
theorem UPD.drop {r r' : List (Str × Sl)} {x y : Str} {t u : Sl} (h : UPD r x t r') (hy : ∀ w, ¬ LK r' y w) : UPD ((y, u) :: r) x t r' := fun z w k => by
  by_cases c : z = y
  · subst c; exact absurd k (hy w)
  · exact (h z w k).imp id fun ⟨a, b⟩ => ⟨a, .next c b⟩

/-- less is known -/
noncomputable def Less (r r' : List (Str × Sl)) : Prop := ∀ y u, LK r' y u → LK r y u
theorem Fst.less {C : Cx} {G F0 F : PM} {env : Env} {sc : Scope} {r r' : List (Str × Sl)} {h : Heap} (S : Fst C G F0 env sc r F h) (l : Less r r') : Fst C G F0 env sc r' F h :=
  ⟨S.ok, S.lt, S.loc, S.cell, S.apart, S.hasc, fun x d k => S.vals x d (l _ _ k), let ⟨oa, h1, h2⟩ := S.own; ⟨oa, fun y ds k => h1 y ds (l _ _ k), fun y z ds es k1 k2 => h2 y z ds es (l _ _ k1) (l _ _ k2)⟩⟩

theorem VarAt.sameLoc {env : Env} {h h' : Heap} {x y : Str} {v w : Value} (a : VarAt env h y w) (hxy : y ≠ x) {m : Str → Option Value} (hn : h.Ns env.locals m) (hn' : h'.Ns env.locals (fun z => if z = x then some v else m z))
    (hs : Heap.SameBut env.locals h h') (hcl : ∀ y c, env.cells.lookup y = some c → c ≠ env.locals) : VarAt env h' y w := by
  rcases a with ⟨e, m', hn2, hm⟩ | ⟨e, c, hc, o, ho, hd⟩
  · refine .inl ⟨e, _, hn', ?_⟩
    have : m' = m := by
      obtain ⟨o1, es1, ep1, e1, d1, _, f1⟩ := hn
      obtain ⟨o2, es2, ep2, e2, d2, _, f2⟩ := hn2
      rw [e1] at e2; cases e2
      rw [d1] at d2; cases d2
      funext z; rw [← f1, ← f2]
    subst this
    simp [hxy, hm]
  · exact .inr ⟨e, c, hc, o, (hs.2 c (hcl y c hc)).trans ho, hd⟩

theorem cells_ne_loc {C : Cx} {G F0 F : PM} {env : Env} {sc : Scope} {r : List (Str × Sl)} {h : Heap} (S : Fst C G F0 env sc r F h) : ∀ y c, env.cells.lookup y = some c → c ≠ env.locals := by
  intro y c hc e
  obtain ⟨_, _, v, o, ho, hd⟩ := S.cell y c hc
  obtain ⟨_, _, m, o', es, ep, ho', hd', _⟩ := S.loc
  rw [e, ho'] at ho; cases ho
  rw [hd] at hd'; cases hd'

/-- the new slot of a name -/
noncomputable def NewSl (env : Env) (F G : PM) (h : Heap) (v : Value) : Sl → Prop
  | .val d => Rep F v d
  | .own ds => ∃ a, v = .ref a ∧ F a = none ∧ G a = none ∧ (∃ vs k, h.get? a = some (lstO vs k) ∧ Reps F vs ds ∧ ds.length ≤ cap)

/-- storing into a name -/
theorem storeVar {C : Cx} {G F0 F : PM} {env : Env} {sc : Scope} {r r' : List (Str × Sl)} {s : Shared} {A : Around} {x : Str} {v : Value} {t : Sl} {Q : Unit → Shared → Prop} {E : Value → Shared → Prop}
    (S : Fst C G F0 env sc r F s.heap) (U : UPD r x t r') (hk : sc.names.lookup x = some .local ∨ sc.names.lookup x = some .cell) (hv : NewSl env F G s.heap v t)
    (hap : ∀ ds, t = .own ds → ∀ y es, y ≠ x → LK r y (.own es) → ¬ VarAt env s.heap y v)
    (hQ : ∀ h' tk', Fst C G F0 env sc r' F h' → (∀ a vs k, s.heap.get? a = some (lstO vs k) → h'.get? a = some (lstO vs k)) ∧ VarAt env h' x v ∧ (∀ y w, y ≠ x → VarAt env s.heap y w → VarAt env h' y w) → Q () { s with heap := h', toks := tk' }) :
    wpAny C.M A (storeName env x v) Q E s := by
  have hkind : env.scope.kind = .function := by rw [S.ok.is]; exact S.ok.fk
  -- whatever road: a new heap that differs at one mutable place alone
  have finish : ∀ (h' : Heap) (p : Addr), (p = env.locals ∨ env.cells.lookup x = some p) → (∀ b, b ≠ p → h'.get? b = s.heap.get? b) → F p = none → G p = none → VarAt env h' x v → (∀ y w, y ≠ x → VarAt env s.heap y w → VarAt env h' y w) →
      (∃ m, h'.Ns env.locals m) → (∀ y c, env.cells.lookup y = some c → ∃ v, h'.IsCell c v) → (∀ a vs k, s.heap.get? a = some (lstO vs k) → a ≠ p) → Fst C G F0 env sc r' F h' ∧ (∀ a vs k, s.heap.get? a = some (lstO vs k) → h'.get? a = some (lstO vs k)) ∧ VarAt env h' x v ∧ (∀ y w, y ≠ x → VarAt env s.heap y w → VarAt env h' y w) := by
    intro h' p hp hsame hFp hGp hx hold hns hcells hlst
    have leF : Sub F h'.get? := fun b o e => (hsame b (by rintro rfl; rw [hFp] at e; cases e)).trans (S.lt.le b o e)
    have keG : Sub G h'.get? := fun b o e => (hsame b (by rintro rfl; rw [hGp] at e; cases e)).trans (S.lt.keep b o e)
    refine ⟨?_, fun a vs k e => (hsame a (hlst a vs k e)).trans e, hx, hold⟩
    refine ⟨S.ok, ⟨S.lt.base, leF, keG, S.lt.up, S.lt.new⟩, ⟨S.loc.1, S.loc.2.1, hns⟩, fun y c hc => ⟨(S.cell y c hc).1, (S.cell y c hc).2.1, hcells y c hc⟩, S.apart, S.hasc, ?_, ?_⟩
    · intro y d k
      rcases U y _ k with ⟨rfl, e⟩ | ⟨hne, k⟩
      · subst e; exact ⟨v, hx, hv⟩
      · obtain ⟨w, a, b⟩ := S.vals y d k
        exact ⟨w, hold y w hne a, b⟩
    · obtain ⟨oa, h1, h2⟩ := S.own
      -- the address of the new own list, if it is one
      have hnew : ∃ a0 : Addr, ∀ ds, t = .own ds → v = .ref a0 ∧ F a0 = none ∧ G a0 = none ∧ (∃ vs k, s.heap.get? a0 = some (lstO vs k) ∧ Reps F vs ds ∧ ds.length ≤ cap) := by
        cases t with
        | val d => exact ⟨0, fun ds e => by cases e⟩
        | own ds => obtain ⟨a, q1, q2, q3, q4⟩ := hv; exact ⟨a, fun ds' e => by cases e; exact ⟨q1, q2, q3, q4⟩⟩
      obtain ⟨a0, hnew⟩ := hnew
      refine ⟨fun y => if y = x then a0 else oa y, fun y ds k => ?_, fun y z ds es k1 k2 e => ?_⟩
      · rcases U y _ k with ⟨rfl, e⟩ | ⟨hne, k⟩
        · obtain ⟨q1, q2, q3, vs, kk, q4, q5, q6⟩ := hnew ds e.symm
          subst q1
          dsimp only; rw [if_pos rfl]
          exact ⟨hx, q2, q3, vs, kk, (hsame a0 (hlst a0 vs kk q4)).trans q4, q5, q6⟩
        · obtain ⟨q1, q2, q3, vs, kk, q4, q5, q6⟩ := h1 y ds k
          dsimp only; rw [if_neg hne]
          exact ⟨hold y _ hne q1, q2, q3, vs, kk, (hsame _ (hlst _ vs kk q4)).trans q4, q5, q6⟩
      · dsimp only at e
        rcases U y _ k1 with ⟨rfl, e1⟩ | ⟨hne1, k1⟩ <;> rcases U z _ k2 with ⟨rfl, e2⟩ | ⟨hne2, k2⟩
        · rfl
        · rw [if_pos rfl, if_neg hne2] at e
          obtain ⟨q1, _⟩ := hnew ds e1.symm
          exact absurd (by rw [q1, e]; exact (h1 z es k2).1) (hap ds e1.symm z es hne2 k2)
        · rw [if_pos rfl, if_neg hne1] at e
          obtain ⟨q1, _⟩ := hnew es e2.symm
          exact absurd (by rw [q1, ← e]; exact (h1 y ds k1).1) (hap es e2.symm y ds hne1 k1)
        · rw [if_neg hne1, if_neg hne2] at e
          exact h2 y z ds es k1 k2 e
  obtain ⟨hFL, hGL, m, hn⟩ := S.loc
  have hcl := cells_ne_loc S
  rcases hk with hk | hk
  · refine wpAny_storeName_local (by rw [S.ok.kind]; exact hk) hn (fun h' hn' hs => ?_) (by rw [hkind]; rfl)
    refine (fun q => hQ h' _ q.1 q.2) (finish h' env.locals (.inl rfl) (fun b hb => hs.2 b hb) hFL hGL (.inl ⟨by rw [S.ok.kind]; exact hk, _, hn', by simp⟩) (fun y w hne a => a.sameLoc hne hn hn' hs hcl) ⟨_, hn'⟩ (fun y c hc => ?_) (fun a vs k e q => ?_))
    · obtain ⟨_, _, v', o, ho, hd⟩ := S.cell y c hc
      exact ⟨v', o, (hs.2 c (hcl y c hc)).trans ho, hd⟩
    · obtain ⟨o, es, ep, ho, hd, _⟩ := hn
      rw [q, ho] at e; cases e; cases hd
  · obtain ⟨c, hc⟩ := Option.isSome_iff_exists.mp (S.hasc x hk)
    obtain ⟨hFc, hGc, v0, hv0⟩ := S.cell x c hc
    refine wpAny_storeName_cell hkind (by rw [S.ok.kind]; exact hk) hc hv0 fun h' hv' hs => ?_
    refine (fun q => hQ h' s.toks q.1 q.2) (finish h' c (.inr hc) (fun b hb => hs.2 b hb) hFc hGc (.inr ⟨.inl (by rw [S.ok.kind]; exact hk), c, hc, hv'⟩) (fun y w hne a => ?_) ⟨m, hn.sameBut hs (Ne.symm (hcl x c hc))⟩ (fun y c' hc' => ?_) (fun a vs k e q => ?_))
    · rcases a with ⟨e, m', hn2, hm⟩ | ⟨e, c', hc', o, ho, hd⟩
      · exact .inl ⟨e, m', hn2.sameBut hs (Ne.symm (hcl x c hc)), hm⟩
      · exact .inr ⟨e, c', hc', o, (hs.2 c' (fun q => hne (S.apart y x c (q ▸ hc') hc))).trans ho, hd⟩
    · by_cases q : c' = c
      · subst q; exact ⟨_, hv'⟩
      · obtain ⟨_, _, v', o, ho, hd⟩ := S.cell y c' hc'
        exact ⟨v', o, (hs.2 c' q).trans ho, hd⟩
    · obtain ⟨o, ho, hd⟩ := hv0
      rw [q, ho] at e; cases e; cases hd

end Mine
end
section
open PySem PySem.W PyProof.Rows PySem.Calls PySem.SeqAt
namespace Mine

theorem VarAt.inj {env : Env} {h : Heap} {x : Str} {v w : Value} (a : VarAt env h x v) (b : VarAt env h x w) : v = w := by
  rcases a with ⟨e, m, hn, hm⟩ | ⟨e, c, hc, o, ho, hd⟩ <;> rcases b with ⟨e', m', hn', hm'⟩ | ⟨e', c', hc', o', ho', hd'⟩
  · have : m' = m := by
      obtain ⟨o1, es1, ep1, e1, d1, _, f1⟩ := hn
      obtain ⟨o2, es2, ep2, e2, d2, _, f2⟩ := hn'
      rw [e1] at e2; cases e2
      rw [d1] at d2; cases d2
      funext z; rw [← f1, ← f2]
    subst this
    rw [hm] at hm'; cases hm'; rfl
  · rcases e' with e' | e' <;> rw [e] at e' <;> cases e'
  · rcases e with e | e <;> rw [e'] at e <;> cases e
  · rw [hc] at hc'; cases hc'
    rw [ho] at ho'; cases ho'
    rw [hd] at hd'; cases hd'; rfl

inductive Out where
  | next (r : List (Str × Sl))
  | ret (d : V)

noncomputable def OutP (C : Cx) (G F0 : PM) (env : Env) (sc : Scope) (s : Shared) (Q : Flow → Shared → Prop) : Out → Prop
  | .next r' => ∀ F' h' tk', Fst C G F0 env sc r' F' h' → Q .next { s with heap := h', toks := tk' }
  | .ret d => ∀ v F' h' tk', Lt C G F0 F' h' → Rep F' v d → Q (.ret v) { s with heap := h', toks := tk' }

noncomputable def EX (C : Cx) (n : Nat) (sc : Scope) (r : List (Str × Sl)) (st : Stmt) (out : Out) : Prop :=
  ∀ (env : Env) (A : Around) (s : Shared) (F G F0 : PM), Fst C G F0 env sc r F s.heap → Room n A → ∀ (Q : Flow → Shared → Prop) (E : Value → Shared → Prop), OutP C G F0 env sc s Q out → wpAny C.M A (exec st env) Q E s
noncomputable def EXs (C : Cx) (n : Nat) (sc : Scope) (r : List (Str × Sl)) (ss : List Stmt) (out : Out) : Prop :=
  ∀ (env : Env) (A : Around) (s : Shared) (F G F0 : PM), Fst C G F0 env sc r F s.heap → Room n A → ∀ (Q : Flow → Shared → Prop) (E : Value → Shared → Prop), OutP C G F0 env sc s Q out → wpAny C.M A (execs ss env) Q E s

theorem OutP.up {C : Cx} {G F0 : PM} {env : Env} {sc : Scope} {s : Shared} {Q : Flow → Shared → Prop} {h' : Heap} {tk' : Nat} : ∀ {out : Out}, OutP C G F0 env sc s Q out → OutP C G F0 env sc { s with heap := h', toks := tk' } Q out
  | .next _, h => h
  | .ret _, h => h

section
variable {C : Cx} {n : Nat} {sc : Scope} {r : List (Str × Sl)}

theorem EXs.nil : EXs C n sc r [] (.next r) := fun env A s F G F0 S ro Q E hq => wpAny_execs_nil (hq F s.heap s.toks S)
theorem EXs.cons {st : Stmt} {ss : List Stmt} {r1 : List (Str × Sl)} {out : Out} (h1 : EX C n sc r st (.next r1)) (h2 : EXs C n sc r1 ss out) : EXs C n sc r (st :: ss) out := by
  intro env A s F G F0 S ro Q E hq
  refine wpAny_execs_cons (h1 env A s F G F0 S ro _ _ fun F1 h1' tk1 S1 => ?_)
  exact h2 env A _ F1 G F0 S1 ro Q E hq.up
theorem EXs.ret {st : Stmt} {ss : List Stmt} {d : V} (h1 : EX C n sc r st (.ret d)) : EXs C n sc r (st :: ss) (.ret d) := by
  intro env A s F G F0 S ro Q E hq
  exact wpAny_execs_cons (h1 env A s F G F0 S ro _ _ fun v F1 h1' tk1 L rv => hq v F1 h1' tk1 L rv)
theorem EXs.less {ss : List Stmt} {r1 : List (Str × Sl)} {out : Out} (l : Less r r1) (h : EXs C n sc r1 ss out) : EXs C n sc r ss out :=
  fun env A s F G F0 S ro Q E hq => h env A s F G F0 (S.less l) ro Q E hq

theorem EX.return {e : Expr} {pos : Pos} {d : V} (h : EV C n sc r e d) : EX C n sc r (.Return (some e) pos) (.ret d) := by
  intro env A s F G F0 S ro Q E hq
  exact wpAny_Return_some (h env A s F (S.pre ro) _ _ fun v F1 h1 tk1 x1 r1 => hq v F1 h1 tk1 (S.lt.ext x1) r1)

theorem EX.assign {x : Str} {px pos : Pos} {e : Expr} {d : V} {r' : List (Str × Sl)} (h : EV C n sc r e d) (U : UPD r x (.val d) r') (hk : sc.names.lookup x = some .local ∨ sc.names.lookup x = some .cell)
    (hs : ∀ env : Env, env.scope = sc → swapsWith e (some (.Name x px)) pos.line env = pure false := by intro _ _; rfl) : EX C n sc r (.Assign [.Name x px] e pos) (.next r') := by
  intro env A s F G F0 S ro Q E hq
  refine wpAny_Assign_Name (h env A s F (S.pre ro) _ _ fun v F1 h1 tk1 x1 r1 => ?_) (hs env S.ok.is)
  exact storeVar (S.ext x1) U hk r1 (fun ds e => by cases e) fun h' tk' S' _ => hq F1 h' tk' S'

theorem EX.if {t : Expr} {body orelse : List Stmt} {pos : Pos} {b : Bool} {out : Out} (h : TS C n sc r t b) (h1 : b = true → EXs C n sc r body out) (h2 : b = false → EXs C n sc r orelse out) : EX C n sc r (.If t body orelse pos) out := by
  intro env A s F G F0 S ro Q E hq
  refine wpAny_If (h env A s F (S.pre ro) _ _ fun F1 h1' tk1 x1 => ?_)
  cases b with
  | true => simp only [if_true]; exact h1 rfl env A _ F1 G F0 (S.ext x1) ro Q E hq.up
  | false => simp only [Bool.false_eq_true, if_false]; exact h2 rfl env A _ F1 G F0 (S.ext x1) ro Q E hq.up

/-- a while loop from here on -/
noncomputable def WH (C : Cx) (n : Nat) (sc : Scope) (r : List (Str × Sl)) (t : Expr) (body : List Stmt) (out : Out) : Prop :=
  ∀ (env : Env) (A : Around) (s : Shared) (F G F0 : PM), Fst C G F0 env sc r F s.heap → Room n A → ∀ (R : Result → Shared → Prop), OutP C G F0 env sc s (fun f s' => R (.ok f) s') out → codeAny C.M A (.whileLoop t body [] env) R s

theorem while_one {prog : Program} {w : World} {A : Around} {R : Result → Shared → Prop} {s : Shared} {t : Expr} {body orelse : List Stmt} {env : Env}
    (h : ∀ E, wpAny (model prog w) A (isTrue t env (eval t env)) (fun b s₂ =>
        if b then wpAny (model prog w) A (execs body env) (fun f s₃ => match f with
            | .next | .cont => codeAny (model prog w) A (.whileLoop t body orelse env) R s₃
            | .brk => R (.ok .next) s₃
            | .ret v => R (.ok (.ret v)) s₃) E s₂
        else wpAny (model prog w) A (execs orelse env) (fun f s₃ => R (.ok f) s₃) E s₂) E s) :
    codeAny (model prog w) A (.whileLoop t body orelse env) R s := by
  refine codeAny_of_tree ?_
  show wpAny _ A ((whileTurn t body orelse env).onRaise (fun x => do noteFrame x env; theTreesLotGoes x)) _ _ s
  refine wpAny_noted ?_
  simp only [whileTurn]
  refine wpAny_bind (wpAny_mono (h _) (fun b s₂ h₂ => ?_) fun _ _ h' => h')
  cases b with
  | false =>
    simp only [Bool.false_eq_true, if_false] at h₂ ⊢
    exact wpAny_bind (wpAny_mono h₂ (fun f s₃ h₃ => wpAny_pure h₃) fun _ _ h' => h')
  | true =>
    simp only [if_true] at h₂ ⊢
    refine wpAny_bind (wpAny_mono h₂ (fun f s₃ h₃ => ?_) fun _ _ h' => h')
    cases f with
    | next => exact wpAny_pure ⟨rfl, h₃⟩
    | cont => exact wpAny_pure ⟨rfl, h₃⟩
    | brk => exact wpAny_pure h₃
    | ret v => exact wpAny_pure h₃

theorem WH.done {t : Expr} {body : List Stmt} (h : TS C n sc r t false) : WH C n sc r t body (.next r) := by
  intro env A s F G F0 S ro R hq
  refine while_one fun E => h env A s F (S.pre ro) _ _ fun F1 h1' tk1 x1 => ?_
  simp only [Bool.false_eq_true, if_false]
  exact wpAny_execs_nil (hq F1 h1' tk1 (S.ext x1))
theorem WH.step {t : Expr} {body : List Stmt} {r1 : List (Str × Sl)} {out : Out} (h : TS C n sc r t true) (hb : EXs C n sc r body (.next r1)) (hw : WH C n sc r1 t body out) : WH C n sc r t body out := by
  intro env A s F G F0 S ro R hq
  refine while_one fun E => h env A s F (S.pre ro) _ _ fun F1 h1' tk1 x1 => ?_
  simp only [if_true]
  refine hb env A _ F1 G F0 (S.ext x1) ro _ _ fun F2 h2' tk2 S2 => ?_
  exact hw env A _ F2 G F0 S2 ro R (OutP.up hq)
theorem WH.ret {t : Expr} {body : List Stmt} {d : V} (h : TS C n sc r t true) (hb : EXs C n sc r body (.ret d)) : WH C n sc r t body (.ret d) := by
  intro env A s F G F0 S ro R hq
  refine while_one fun E => h env A s F (S.pre ro) _ _ fun F1 h1' tk1 x1 => ?_
  simp only [if_true]
  exact hb env A _ F1 G F0 (S.ext x1) ro _ _ fun v F2 h2' tk2 L rv => hq v F2 h2' tk2 L rv
theorem WH.less {t : Expr} {body : List Stmt} {r1 : List (Str × Sl)} {out : Out} (l : Less r r1) (h : WH C n sc r1 t body out) : WH C n sc r t body out :=
  fun env A s F G F0 S ro R hq => h env A s F G F0 (S.less l) ro R hq

theorem EX.while {t : Expr} {body : List Stmt} {pos : Pos} {out : Out} (h : WH C n sc r t body out) : EX C n sc r (.While t body [] pos) out := by
  intro env A s F G F0 S ro Q E hq
  refine wpAny_While (h env A s F G F0 S ro _ ?_)
  cases out with
  | next r' => exact fun F' h' tk' S' => hq F' h' tk' S'
  | ret d => exact fun v F' h' tk' L rv => hq v F' h' tk' L rv

/-- a for loop over an iterator that is on its way -/
theorem for_one {prog : Program} {w : World} {A : Around} {R : Result → Shared → Prop} {s : Shared} {it : Value} {x : Str} {px : Pos} {body : List Stmt} {env : Env}
    (h : ∀ E, wpAny (model prog w) A (pyNext it) (fun r s₁ => match r with
      | none => R (.ok .next) s₁
      | some v => wpAny (model prog w) A (storeName env x v) (fun _ s₂ => wpAny (model prog w) A (execs body env) (fun f s₃ => match f with
          | .next | .cont => codeAny (model prog w) A (.forLoop (.Name x px) it body [] env) R s₃
          | .brk => R (.ok .next) s₃
          | .ret v => R (.ok (.ret v)) s₃) E s₂) E s₁) E s) :
    codeAny (model prog w) A (.forLoop (.Name x px) it body [] env) R s := by
  refine codeAny_of_tree ?_
  show wpAny _ A ((forTurn (.Name x px) it body [] env).onRaise (fun x => do noteFrame x env; theTreesLotGoes x)) _ _ s
  refine wpAny_noted ?_
  unfold forTurn
  refine wpAny_bind (wpAny_standAt (wpAny_bind (wpAny_onRaise (wpAny_mono (h _) (fun o s₁ h₁ => ?_) fun _ _ h' => wpAny_standAt h'))))
  cases o with
  | none => exact wpAny_pure ⟨rfl, codeAny_block (wpAny_execs_nil h₁)⟩
  | some v =>
    refine wpAny_bind (wpAny_of_eq (a := ()) rfl (wpAny_bind (wpAny_assign_Name (wpAny_mono h₁ (fun _ s₂ h₂ => ?_) fun _ _ h' => h'))))
    refine wpAny_bind (wpAny_mono h₂ (fun f s₃ h₃ => ?_) fun _ _ h' => h')
    cases f with
    | next => exact wpAny_pure ⟨rfl, h₃⟩
    | cont => exact wpAny_pure ⟨rfl, h₃⟩
    | brk => exact wpAny_pure h₃
    | ret v => exact wpAny_pure h₃
end
end Mine
end
section
open PySem PySem.W PyProof.Rows PySem.Calls PySem.SeqAt
namespace Mine

/-- what must stay while an iterator stands: its own objects too -/
noncomputable def gw (wr : List Addr) (h : Heap) (G : PM) : PM := fun a => if a ∈ wr then h.get? a else G a

theorem Fst.weak {C : Cx} {G G' F0 F : PM} {env : Env} {sc : Scope} {r : List (Str × Sl)} {h : Heap} (S : Fst C G' F0 env sc r F h) (hs : Sub G G') : Fst C G F0 env sc r F h := by
  have nn : ∀ a, G' a = none → G a = none := fun a e => by
    cases q : G a with
    | none => rfl
    | some o => rw [hs a o q] at e; cases e
  refine ⟨S.ok, ⟨S.lt.base, S.lt.le, hs.trans S.lt.keep, S.lt.up, fun a e ne => nn a (S.lt.new a e ne)⟩, ⟨S.loc.1, nn _ S.loc.2.1, S.loc.2.2⟩, fun y c hc => ⟨(S.cell y c hc).1, nn _ (S.cell y c hc).2.1, (S.cell y c hc).2.2⟩, S.apart, S.hasc, S.vals, ?_⟩
  obtain ⟨oa, h1, h2⟩ := S.own
  exact ⟨oa, fun y ds k => let ⟨p1, p2, p3, p4⟩ := h1 y ds k; ⟨p1, p2, nn _ p3, p4⟩, h2⟩

/-- what is frozen now is the root -/
theorem Fst.root {C : Cx} {G F0 F : PM} {env : Env} {sc : Scope} {r : List (Str × Sl)} {h : Heap} (S : Fst C G F0 env sc r F h) : Fst C G F env sc r F h :=
  ⟨S.ok, ⟨S.lt.base, S.lt.le, S.lt.keep, Sub.refl _, fun _ e ne => absurd e ne⟩, S.loc, S.cell, S.apart, S.hasc, S.vals, S.own⟩
theorem Fst.unroot {C : Cx} {G F0 F F' : PM} {env : Env} {sc : Scope} {r : List (Str × Sl)} {h h' : Heap} (S : Fst C G F env sc r F' h') (L : Lt C G F0 F h) : Fst C G F0 env sc r F' h' :=
  ⟨S.ok, ⟨S.lt.base, S.lt.le, S.lt.keep, L.up.trans S.lt.up, fun a e ne => by
    by_cases c : F a = none
    · exact S.lt.new a c ne
    · exact L.new a e c⟩, S.loc, S.cell, S.apart, S.hasc, S.vals, S.own⟩

/-- the iterator goes a step -/
theorem Fst.walk {C : Cx} {G F0 F : PM} {env : Env} {sc : Scope} {r : List (Str × Sl)} {h h1 : Heap} {wr : List Addr} (S : Fst C (gw wr h G) F0 env sc r F h) (alive : ∀ b ∈ wr, h.get? b ≠ none) (hF : ∀ b ∈ wr, F b = none)
    (hk : ∀ b o, b ∉ wr → h.get? b = some o → h1.get? b = some o) (alive1 : ∀ b ∈ wr, h1.get? b ≠ none) : Fst C (gw wr h1 G) F0 env sc r F h1 := by
  have out : ∀ a, gw wr h G a = none → a ∉ wr ∧ G a = none := fun a e => by
    unfold gw at e
    by_cases c : a ∈ wr
    · rw [if_pos c] at e; exact absurd e (alive a c)
    · rw [if_neg c] at e; exact ⟨c, e⟩
  have into : ∀ a, a ∉ wr → G a = none → gw wr h1 G a = none := fun a c e => by unfold gw; rw [if_neg c]; exact e
  refine ⟨S.ok, ⟨S.lt.base, fun b o e => hk b o (fun c => by rw [hF b c] at e; cases e) (S.lt.le b o e), fun b o e => ?_, S.lt.up, fun a e ne => ?_⟩, ?_, fun y c hc => ?_, S.apart, S.hasc, fun y d k => ?_, ?_⟩
  · unfold gw at e
    by_cases c : b ∈ wr
    · rw [if_pos c] at e; exact e
    · rw [if_neg c] at e; exact hk b o c (S.lt.keep b o (by unfold gw; rw [if_neg c]; exact e))
  · obtain ⟨q1, q2⟩ := out a (S.lt.new a e ne)
    exact into a q1 q2
  · obtain ⟨a, b, m, hn⟩ := S.loc
    obtain ⟨q1, q2⟩ := out _ b
    exact ⟨a, into _ q1 q2, m, hn.at' fun o e => hk _ o q1 e⟩
  · obtain ⟨a, b, v, o, ho, hd⟩ := S.cell y c hc
    obtain ⟨q1, q2⟩ := out _ b
    exact ⟨a, into _ q1 q2, v, o, hk _ _ q1 ho, hd⟩
  · obtain ⟨v, a, b⟩ := S.vals y d k
    refine ⟨v, ?_, b⟩
    rcases a with ⟨e, m, hn, hm⟩ | ⟨e, c, hc, o, ho, hd⟩
    · exact .inl ⟨e, m, hn.at' fun o e => hk _ o (out _ S.loc.2.1).1 e, hm⟩
    · exact .inr ⟨e, c, hc, o, hk _ _ (out _ (S.cell y c hc).2.1).1 ho, hd⟩
  · obtain ⟨oa, h1', h2⟩ := S.own
    refine ⟨oa, fun y ds k => ?_, h2⟩
    obtain ⟨p1, p2, p3, vs, kk, p4, p5, p6⟩ := h1' y ds k
    obtain ⟨q1, q2⟩ := out _ p3
    refine ⟨?_, p2, into _ q1 q2, vs, kk, hk _ _ q1 p4, p5, p6⟩
    rcases p1 with ⟨e, m, hn, hm⟩ | ⟨e, c, hc, o, ho, hd⟩
    · exact .inl ⟨e, m, hn.at' fun o e => hk _ o (out _ S.loc.2.1).1 e, hm⟩
    · exact .inr ⟨e, c, hc, o, hk _ _ (out _ (S.cell y c hc).2.1).1 ho, hd⟩

/-- a for loop from its turn i on -/
noncomputable def FL (C : Cx) (n : Nat) (sc : Scope) (x : Str) (px : Pos) (body : List Stmt) (all : List V) (i : Nat) (r : List (Str × Sl)) (out : Out) : Prop :=
  ∀ (env : Env) (A : Around) (s : Shared) (F G F0 : PM) (I : Addr) (fp wr : List Addr) (P : Nat → Value → Prop) (St : Nat → Heap → Prop), Walks C.prog C.w A I fp wr all.length P St → St i s.heap →
    Fst C (gw wr s.heap G) F0 env sc r F s.heap → (∀ b ∈ wr, F b = none ∧ F0 b = none ∧ G b = none) → (∀ b ∈ fp, b ∈ wr ∨ F b ≠ none) → (∀ i v, i < all.length → P i v → ∃ d, all[i]? = some d ∧ Rep F v d) →
    (∀ i h, St i h → ∀ b ∈ wr, h.get? b ≠ none) → Room n A → ∀ (R : Result → Shared → Prop), OutP C G F0 env sc s (fun f s' => R (.ok f) s') out → codeAny C.M A (.forLoop (.Name x px) (.ref I) body [] env) R s

section
variable {C : Cx} {n : Nat} {sc : Scope} {r : List (Str × Sl)} {x : Str} {px : Pos} {body : List Stmt} {all : List V}

theorem sub_gw {wr : List Addr} {h : Heap} {G : PM} (hG : ∀ b ∈ wr, G b = none) : Sub G (gw wr h G) := fun a o e => by
  unfold gw
  by_cases c : a ∈ wr
  · rw [hG a c] at e; cases e
  · rw [if_neg c]; exact e

theorem FL.nil : FL C n sc x px body all all.length r (.next r) := by
  intro env A s F G F0 I fp wr P St W hst S hwr hfp hP alive ro R hq
  refine for_one fun E => W.done _ _ _ hst fun h1 tk1 hk => ?_
  -- the iterator is spent: its objects are no more asked
  have out : ∀ a, gw wr s.heap G a = none → a ∉ wr ∧ G a = none := fun a e => by
    unfold gw at e
    by_cases c : a ∈ wr
    · rw [if_pos c] at e; exact absurd e (alive _ _ hst a c)
    · rw [if_neg c] at e; exact ⟨c, e⟩
  refine hq F h1 tk1 ⟨S.ok, ⟨S.lt.base, fun b o e => hk b o (fun c => by rw [(hwr b c).1] at e; cases e) (S.lt.le b o e), fun b o e => ?_, S.lt.up, fun a e ne => (out a (S.lt.new a e ne)).2⟩, ?_, fun y c hc => ?_, S.apart, S.hasc, fun y d k => ?_, ?_⟩
  · have c : b ∉ wr := fun c => by rw [(hwr b c).2.2] at e; cases e
    exact hk b o c (S.lt.keep b o (by unfold gw; rw [if_neg c]; exact e))
  · obtain ⟨a, b, m, hn⟩ := S.loc
    obtain ⟨q1, q2⟩ := out _ b
    exact ⟨a, q2, m, hn.at' fun o e => hk _ o q1 e⟩
  · obtain ⟨a, b, v, o, ho, hd⟩ := S.cell y c hc
    obtain ⟨q1, q2⟩ := out _ b
    exact ⟨a, q2, v, o, hk _ _ q1 ho, hd⟩
  · obtain ⟨v, a, b⟩ := S.vals y d k
    refine ⟨v, ?_, b⟩
    rcases a with ⟨e, m, hn, hm⟩ | ⟨e, c, hc, o, ho, hd⟩
    · exact .inl ⟨e, m, hn.at' fun o e => hk _ o (out _ S.loc.2.1).1 e, hm⟩
    · exact .inr ⟨e, c, hc, o, hk _ _ (out _ (S.cell y c hc).2.1).1 ho, hd⟩
  · obtain ⟨oa, h1', h2⟩ := S.own
    refine ⟨oa, fun y ds k => ?_, h2⟩
    obtain ⟨p1, p2, p3, vs, kk, p4, p5, p6⟩ := h1' y ds k
    obtain ⟨q1, q2⟩ := out _ p3
    refine ⟨?_, p2, q2, vs, kk, hk _ _ q1 p4, p5, p6⟩
    rcases p1 with ⟨e, m, hn, hm⟩ | ⟨e, c, hc, o, ho, hd⟩
    · exact .inl ⟨e, m, hn.at' fun o e => hk _ o (out _ S.loc.2.1).1 e, hm⟩
    · exact .inr ⟨e, c, hc, o, hk _ _ (out _ (S.cell y c hc).2.1).1 ho, hd⟩

theorem FL.cons {i : Nat} {d : V} {r1 r2 : List (Str × Sl)} {out : Out} (hd : all[i]? = some d) (U : UPD r x (.val d) r1) (hk : sc.names.lookup x = some .local ∨ sc.names.lookup x = some .cell)
    (hb : EXs C n sc r1 body (.next r2)) (hr : FL C n sc x px body all (i + 1) r2 out) : FL C n sc x px body all i r out := by
  intro env A s F G F0 I fp wr P St W hst S hwr hfp hP alive ro R hq
  have hi : i < all.length := (List.getElem?_eq_some_iff.mp hd).1
  refine for_one fun E => W.item i _ _ _ hi hst fun v h1 tk1 hPv hst1 hk1 => ?_
  obtain ⟨d', hd', rv⟩ := hP i v hi hPv
  rw [hd] at hd'; cases hd'
  have S1 : Fst C (gw wr h1 G) F0 env sc r F h1 := S.walk (alive _ _ hst) (fun b hb => (hwr b hb).1) hk1 (alive _ _ hst1)
  refine storeVar (s := { s with heap := h1, toks := tk1 }) S1 U hk rv (fun ds e => by cases e) fun h2 tk2 S2 _ => ?_
  refine hb env A _ F _ F S2.root ro _ _ fun F3 h3 tk3 S3 => ?_
  have hsame : ∀ b ∈ wr, h3.get? b = h1.get? b := fun b hb => by
    cases q : h1.get? b with
    | none => exact absurd q (alive _ _ hst1 b hb)
    | some o => exact S3.lt.keep b o (by unfold gw; rw [if_pos hb]; exact q)
  have hgw : gw wr h3 G = gw wr h1 G := by
    funext a
    unfold gw
    by_cases c : a ∈ wr
    · rw [if_pos c, if_pos c, hsame a c]
    · rw [if_neg c, if_neg c]
  have hst3 : St (i + 1) h3 := by
    refine W.frame _ _ _ hst1 fun b hb o e => ?_
    rcases hfp b hb with c | c
    · exact (hsame b c).trans e
    · cases q : F b with
      | none => exact absurd q c
      | some o' =>
        have e1 := S1.lt.le b o' q
        rw [e] at e1; cases e1
        exact S3.lt.le b o (S3.lt.up b o q)
  have hF3 : ∀ b ∈ wr, F3 b = none := fun b hb => by
    by_cases c : F3 b = none
    · exact c
    · have := S3.lt.new b (hwr b hb).1 c
      unfold gw at this
      rw [if_pos hb] at this
      exact absurd this (alive _ _ hst1 b hb)
  have S3' : Fst C (gw wr h3 G) F0 env sc r2 F3 h3 := by rw [hgw]; exact S3.unroot S2.lt
  exact hr env A _ F3 G F0 I fp wr P St W hst3 S3' (fun b hb => ⟨hF3 b hb, (hwr b hb).2⟩) (fun b hb => (hfp b hb).imp id fun c q => c (by
      cases q' : F b with
      | none => rfl
      | some o => rw [S3.lt.up b o q'] at q; cases q)) (fun j v hj hp => let ⟨d, q1, q2⟩ := hP j v hj hp; ⟨d, q1, q2.mono S3.lt.up⟩) alive ro R (OutP.up hq)

theorem FL.ret {i : Nat} {d e : V} {r1 : List (Str × Sl)} (hd : all[i]? = some d) (U : UPD r x (.val d) r1) (hk : sc.names.lookup x = some .local ∨ sc.names.lookup x = some .cell)
    (hb : EXs C n sc r1 body (.ret e)) : FL C n sc x px body all i r (.ret e) := by
  intro env A s F G F0 I fp wr P St W hst S hwr hfp hP alive ro R hq
  have hi : i < all.length := (List.getElem?_eq_some_iff.mp hd).1
  refine for_one fun E => W.item i _ _ _ hi hst fun v h1 tk1 hPv hst1 hk1 => ?_
  obtain ⟨d', hd', rv⟩ := hP i v hi hPv
  rw [hd] at hd'; cases hd'
  have S1 : Fst C (gw wr h1 G) F0 env sc r F h1 := S.walk (alive _ _ hst) (fun b hb => (hwr b hb).1) hk1 (alive _ _ hst1)
  refine storeVar (s := { s with heap := h1, toks := tk1 }) S1 U hk rv (fun ds e => by cases e) fun h2 tk2 S2 _ => ?_
  refine hb env A _ F _ F0 S2 ro _ _ fun v F3 h3 tk3 L rv => ?_
  refine hq v F3 h3 tk3 ⟨L.base, L.le, (sub_gw fun b hb => (hwr b hb).2.2).trans L.keep, L.up, fun a e ne => ?_⟩ rv
  have := L.new a e ne
  unfold gw at this
  by_cases c : a ∈ wr
  · exact (hwr a c).2.2
  · rw [if_neg c] at this; exact this

theorem EX.for {iter : Expr} {pos : Pos} {out : Out} (hit : IT C n sc r iter all) (hf : FL C n sc x px body all 0 r out)
    (hs : ∀ env y, foldedSetIterable iter env y = pure y := by intro _ _; rfl) : EX C n sc r (.For (.Name x px) iter body [] pos) out := by
  intro env A s F G F0 S ro Q E hq
  refine wpAny_For (hit env A s F (S.pre ro) _ E fun I fp wr P St F' h' tk' x0 W hst hfp hwr alive hfp2 hP => ?_) (hs env)
  have S1 := S.ext x0
  have hG : ∀ b ∈ wr, G b = none := fun b hb => by
    cases q : G b with
    | none => rfl
    | some o => have := S.lt.keep b o q; rw [(hwr b hb).2] at this; cases this
  have into : ∀ a, h'.get? a ≠ none → s.heap.get? a ≠ none → G a = none → gw wr h' G a = none := fun a _ hs0 e => by
    unfold gw
    by_cases c : a ∈ wr
    · exact absurd (hwr a c).2 hs0
    · rw [if_neg c]; exact e
  have S2 : Fst C (gw wr h' G) F0 env sc r F' h' := by
    refine ⟨S1.ok, ⟨S1.lt.base, S1.lt.le, fun b o e => ?_, S1.lt.up, fun a e ne => ?_⟩, ?_, fun y c hc => ?_, S1.apart, S1.hasc, S1.vals, ?_⟩
    · unfold gw at e
      by_cases c : b ∈ wr
      · rw [if_pos c] at e; exact e
      · rw [if_neg c] at e; exact S1.lt.keep b o e
    · unfold gw
      by_cases c : a ∈ wr
      · exact absurd (hwr a c).1 ne
      · rw [if_neg c]; exact S1.lt.new a e ne
    · obtain ⟨a, b, m, hn⟩ := S1.loc
      obtain ⟨_, _, m0, hn0⟩ := S.loc
      exact ⟨a, into _ (by obtain ⟨o, _, _, ho, _⟩ := hn; rw [ho]; exact fun q => nomatch q) (by obtain ⟨o, _, _, ho, _⟩ := hn0; rw [ho]; exact fun q => nomatch q) b, m, hn⟩
    · obtain ⟨a, b, v, hv⟩ := S1.cell y c hc
      obtain ⟨_, _, v0, hv0⟩ := S.cell y c hc
      exact ⟨a, into _ (by obtain ⟨o, ho, _⟩ := hv; rw [ho]; exact fun q => nomatch q) (by obtain ⟨o, ho, _⟩ := hv0; rw [ho]; exact fun q => nomatch q) b, v, hv⟩
    · obtain ⟨oa, h1, h2⟩ := S.own
      refine ⟨oa, fun y ds k => ?_, h2⟩
      obtain ⟨p1, p2, p3, vs, kk, p4, p5, p6⟩ := h1 y ds k
      have q := OwnAt.ext ⟨p1, p2, p3, vs, kk, p4, p5, p6⟩ x0
      obtain ⟨q1, q2, q3, ws, kw, q4, q5, q6⟩ := q
      exact ⟨q1, q2, into _ (by rw [q4]; exact fun q => nomatch q) (by rw [p4]; exact fun q => nomatch q) q3, ws, kw, q4, q5, q6⟩
  have hF0 : ∀ b ∈ wr, F0 b = none := fun b hb => by
    cases q : F0 b with
    | none => rfl
    | some o => have := S1.lt.up b o q; rw [(hwr b hb).1] at this; cases this
  refine hf env A _ F' G F0 I fp wr P St W hst S2 (fun b hb => ⟨(hwr b hb).1, hF0 b hb, hG b hb⟩) hfp2 hP alive ro _ ?_
  cases out with
  | next r' => exact fun F' h' tk' S' => hq F' h' tk' S'
  | ret d => exact fun v F' h' tk' L rv => hq v F' h' tk' L rv
end
end Mine
end
section
open PySem PySem.W PyProof.Rows PySem.Calls PySem.SeqAt
namespace Mine

theorem bindL_other {kd : Str → Option NameKind} {x : Str} : ∀ {binds : List (Str × Value)} {m : Str → Option Value}, x ∉ binds.map (·.1) → bindL kd binds m x = m x
  | [], _, _ => rfl
  | (y, w) :: rest, m, h => by
    have h1 : x ≠ y := fun e => h (by rw [e]; exact List.mem_cons_self ..)
    have h2 : x ∉ rest.map (·.1) := fun e => h (List.mem_cons_of_mem _ e)
    unfold bindL
    rw [bindL_other h2]
    split
    · simp [h1]
    · rfl
theorem bindL_get {kd : Str → Option NameKind} {x : Str} {v : Value} (hk : kd x = some .local) : ∀ {binds : List (Str × Value)} {m : Str → Option Value}, (x, v) ∈ binds → (binds.map (·.1)).Nodup → bindL kd binds m x = some v
  | (y, w) :: rest, m, h, hn => by
    obtain ⟨h1, h2⟩ := List.nodup_cons.mp hn
    unfold bindL
    rcases List.mem_cons.mp h with e | h
    · cases e
      rw [bindL_other h1, if_pos hk]; simp
    · exact bindL_get hk h h2
theorem bindC_other {kd : Str → Option NameKind} {x : Str} : ∀ {binds : List (Str × Value)} {m : Str → Option Value}, x ∉ binds.map (·.1) → bindC kd binds m x = m x
  | [], _, _ => rfl
  | (y, w) :: rest, m, h => by
    have h1 : x ≠ y := fun e => h (by rw [e]; exact List.mem_cons_self ..)
    have h2 : x ∉ rest.map (·.1) := fun e => h (List.mem_cons_of_mem _ e)
    unfold bindC
    rw [bindC_other h2]
    split
    · rfl
    · simp [h1]
theorem bindC_get {kd : Str → Option NameKind} {x : Str} {v : Value} (hk : kd x = some .cell) : ∀ {binds : List (Str × Value)} {m : Str → Option Value}, (x, v) ∈ binds → (binds.map (·.1)).Nodup → bindC kd binds m x = some v
  | (y, w) :: rest, m, h, hn => by
    obtain ⟨h1, h2⟩ := List.nodup_cons.mp hn
    unfold bindC
    rcases List.mem_cons.mp h with e | h
    · cases e
      rw [bindC_other h1, if_neg (by rw [hk]; decide)]; simp
    · exact bindC_get hk h h2

theorem zip_slots {F : PM} : ∀ {names : List Str} {vs : List Value} {ds : List V} {x : Str} {t : Sl}, Reps F vs ds → LK (names.zip (ds.map .val)) x t → ∃ v d, (x, v) ∈ names.zip vs ∧ t = .val d ∧ Rep F v d
  | [], _, _, _, _, _, k => by cases k
  | _ :: _, _, [], _, _, _, k => by cases k
  | y :: names, vs, d :: ds, x, t, h, k => by
    unfold Reps at h
    obtain ⟨v, rest, rfl, hv, hr⟩ := h
    cases k with
    | here => exact ⟨v, d, List.mem_cons_self .., rfl, hv⟩
    | next _ k =>
      obtain ⟨w, d', h1, h2, h3⟩ := zip_slots hr k
      exact ⟨w, d', List.mem_cons_of_mem _ h1, h2, h3⟩

/-- a def of the text, at its place -/
structure FnAt (C : Cx) (f : Addr) (fd : FuncData) (body : List Stmt) : Prop where
  at_ : ∃ o, C.b0.get? f = some o ∧ o.data = .func fd
  code : C.b0.CodeRec fd.code fd.qualname
  body : fd.body = .stmts body
  gl : fd.globals = mainGlobals
  bt : fd.builtins = builtinsNs
  clo : fd.closure = []
  co : fd.scope.isCoroutine = false
  gen : fd.scope.isGenerator = false
  kind : fd.scope.kind = .function

theorem nodup_zip {α : Type} : ∀ {names : List Str} {vs : List α}, names.Nodup → ((names.zip vs).map (·.1)).Nodup
  | [], _, _ => by simp
  | _ :: _, [], _ => by simp
  | y :: names, v :: vs, h => by
    obtain ⟨h1, h2⟩ := List.nodup_cons.mp h
    rw [List.zip_cons_cons, List.map_cons]
    refine List.nodup_cons.mpr ⟨fun hm => h1 ?_, nodup_zip h2⟩
    obtain ⟨p, hp, e⟩ := List.mem_map.mp hm
    have e' : p.1 = y := e
    exact e' ▸ (List.of_mem_zip hp).1

theorem CL.intro {C : Cx} {n : Nat} {f : Addr} {fd : FuncData} {body : List Stmt} {names : List Str} {ds : List V} {d : V} {out : Out} (hf : FnAt C f fd body)
    (hbind : ∀ vs : List Value, vs.length = names.length → bindArgs fd ⟨vs, []⟩ = pure (names.zip vs))
    (hkind : ∀ x ∈ names, fd.scope.names.lookup x = some .local ∨ fd.scope.names.lookup x = some .cell) (hnd : names.Nodup) (hlen : ds.length = names.length)
    (hb : EXs C n fd.scope (names.zip (ds.map .val)) body out) (hout : out = .ret d ∨ ((∃ r, out = .next r) ∧ d = .none)) : CL C (n + 1) f ds d := by
  intro A s F ro base le vs rs Q E hq
  obtain ⟨o, ho, hdat⟩ := hf.at_
  have keep0 : Sub C.b0.get? s.heap.get? := base.trans le
  have hvl : vs.length = names.length := rs.len.trans hlen
  have hcs : ∀ x, fd.scope.names.lookup x = some .cell → ∀ k, ((cellsFrom k fd.scope.names []).lookup x).isSome = true := fun x hx k => cellsFrom_some fd.scope.names k [] (.inl hx)
  refine wpAny_call (codeAny_call_cells ro.depLt (keep0 _ _ ho) hdat (C.lim.keeps keep0) (hf.code.keeps keep0) hf.body (hbind vs hvl) hf.clo (fun x hx => ?_) (fun s₁ X => ?_) hf.co hf.gen hf.kind)
  · have hx' := (List.of_mem_zip hx).1
    exact (hkind x.1 hx').imp id fun h => ⟨h, hcs _ h _⟩
  · have henv : EnvOk (callEnvC fd s.heap.objs.size f) fd.scope := ⟨rfl, hf.kind, hf.gl, hf.bt⟩
    obtain ⟨h₁, tk, rfl, _⟩ := X.done
    have hk₁ := X.toInCall.keep
    have fr : ∀ a, s.heap.objs.size ≤ a → s.heap.get? a = none := fun a ha => Heap.get?_none_of_le ha
    have S : Fst C s.heap.get? F (callEnvC fd s.heap.objs.size f) fd.scope (names.zip (ds.map .val)) F h₁ := by
      refine ⟨henv, ⟨base, le.trans hk₁, hk₁, Sub.refl _, fun _ e ne => absurd e ne⟩, ⟨none_of_le le (fresh_size _), fresh_size _, _, X.toInCall.ns⟩, fun y c hc => ?_, fun y z c h1 h2 => name_of_addr X.apart (mem_of_lookup h1) (mem_of_lookup h2), fun x hx => hcs x hx _, fun x e k => ?_, ?_⟩
      · have hg := fr c (Nat.le_of_lt (X.above y c (mem_of_lookup hc)))
        exact ⟨none_of_le le hg, hg, _, X.cell y c hc⟩
      · obtain ⟨v, d', h1, h2, h3⟩ := zip_slots rs k
        cases h2
        refine ⟨v, ?_, h3⟩
        have hn := nodup_zip (vs := vs) hnd
        rcases hkind x (List.of_mem_zip h1).1 with hkx | hkx
        · exact .inl ⟨hkx, _, X.toInCall.ns, bindL_get hkx h1 hn⟩
        · obtain ⟨c, hc⟩ := Option.isSome_iff_exists.mp (hcs x hkx (s.heap.objs.size + 1))
          refine .inr ⟨.inl hkx, c, hc, ?_⟩
          have := X.cell x c hc
          rw [bindC_get hkx h1 hn] at this
          exact this
      · refine ⟨fun _ => 0, fun y es k => ?_, fun y z es _ k _ _ => ?_⟩
        · obtain ⟨_, d', _, h2, _⟩ := zip_slots rs k; cases h2
        · obtain ⟨_, d', _, h2, _⟩ := zip_slots rs k; cases h2
    have toExt : ∀ {F' : PM} {h' : Heap}, Lt C s.heap.get? F F' h' → Ext F s.heap F' h' := fun L => ⟨L.up, L.le, L.keep, L.new⟩
    refine hb _ _ _ F _ F S (ro.deeper _) _ _ ?_
    rcases hout with rfl | ⟨⟨r, rfl⟩, rfl⟩
    · exact fun v F' h' tk' L rv => hq v F' h' tk' (toExt L) rv
    · exact fun F' h' tk' S' => hq .none F' h' tk' (toExt S'.lt) rep_none
end Mine
end
section
open PySem PySem.W PyProof.Rows PySem.Calls PySem.SeqAt
namespace Mine

/-- an expression that makes a list of its own -/
noncomputable def EVO (C : Cx) (n : Nat) (sc : Scope) (r : List (Str × Sl)) (e : Expr) (ds : List V) : Prop :=
  ∀ (env : Env) (A : Around) (s : Shared) (F : PM), Pre C env sc n A r F s → ∀ (Q E : Value → Shared → Prop),
    (∀ a vs k F' h' tk', Ext F s.heap F' h' → F' a = none → s.heap.get? a = none → h'.get? a = some (lstO vs k) → Reps F' vs ds → ds.length ≤ cap → Q (.ref a) { s with heap := h', toks := tk' }) → wpAny C.M A (eval e env) Q E s

noncomputable def NewsP (env : Env) (F G : PM) (h : Heap) : List (Value × Sl) → Prop
  | [] => True
  | p :: ps => NewSl env F G h p.1 p.2 ∧ (∀ q ∈ ps, (∃ es, q.2 = .own es) → (∃ ds, p.2 = .own ds) → q.1 ≠ p.1) ∧ NewsP env F G h ps

theorem NewsP.snoc {env : Env} {F G : PM} {h : Heap} {p : Value × Sl} : ∀ {ps : List (Value × Sl)}, NewsP env F G h ps → NewSl env F G h p.1 p.2 → (∀ q ∈ ps, (∃ es, q.2 = .own es) → (∃ ds, p.2 = .own ds) → q.1 ≠ p.1) → NewsP env F G h (ps ++ [p])
  | [], _, hp, _ => ⟨hp, (fun _ h => nomatch h), trivial⟩
  | q :: ps, hn, hp, hq => by
    refine ⟨hn.1, ?_, NewsP.snoc hn.2.2 hp fun z hz => hq z (List.mem_cons_of_mem _ hz)⟩
    intro z hz h1 h2
    rcases List.mem_append.mp hz with hz | hz
    · exact hn.2.1 z hz h1 h2
    · rcases List.mem_cons.mp hz with rfl | hz
      · exact (hq q (List.mem_cons_self ..) h2 h1).symm
      · cases hz
theorem NewsP.rev {env : Env} {F G : PM} {h : Heap} : ∀ {ps : List (Value × Sl)}, NewsP env F G h ps → NewsP env F G h ps.reverse
  | [], _ => trivial
  | p :: ps, hn => by
    rw [List.reverse_cons]
    exact hn.2.2.rev.snoc hn.1 fun q hq => hn.2.1 q (List.mem_reverse.mp hq)

/-- items of a display that is taken apart at once: some are lists of their own -/
noncomputable def EVS (C : Cx) (n : Nat) (sc : Scope) (r : List (Str × Sl)) (es : List Expr) (ts : List Sl) : Prop :=
  ∀ (env : Env) (A : Around) (s : Shared) (F : PM), Pre C env sc n A r F s → ∀ (pos : Pos) (Q : List Value → Shared → Prop) (E : Value → Shared → Prop),
    (∀ (ps : List (Value × Sl)) F' h' tk', Ext F s.heap F' h' → ps.map (·.2) = ts → NewsP env F' s.heap.get? h' ps → Q (ps.map (·.1)) { s with heap := h', toks := tk' }) → wpAny C.M A (spliced (backTo pos (starEach es env))) Q E s

theorem NewSl.up {env : Env} {F F' G G' : PM} {h h' : Heap} {v : Value} {t : Sl} (x : Ext F h F' h') (hG : Sub G' G) (n : NewSl env F G h v t) : NewSl env F' G' h' v t := by
  cases t with
  | val d => exact Rep.mono x.up n
  | own ds =>
    obtain ⟨a, q1, q2, q3, vs, k, q4, q5, q6⟩ := n
    refine ⟨a, q1, none_after x q2 (by rw [q4]; exact fun q => nomatch q), ?_, vs, k, x.keep _ _ q4, q5.mono x.up, q6⟩
    cases q : G' a with
    | none => rfl
    | some o => rw [hG a o q] at q3; cases q3

section
variable {C : Cx} {n : Nat} {sc : Scope} {r : List (Str × Sl)}

theorem EVS.nil : EVS C n sc r [] [] := by
  intro env A s F p pos Q E h
  exact args_nil (h [] F s.heap s.toks (Ext.refl p.le) rfl trivial)

theorem EVS.consV {e : Expr} {es : List Expr} {d : V} {ts : List Sl} (h1 : EV C n sc r e d) (h2 : EVS C n sc r es ts)
    (he : ∀ env, starEach (e :: es) env = (false, eval e env) :: starEach es env := by intro _; rfl) : EVS C n sc r (e :: es) (.val d :: ts) := by
  intro env A s F p pos Q E h
  refine args_cons (h1 env A s F p _ _ fun v F1 h1' tk1 x1 r1 => ?_) (he env)
  refine h2 env A _ F1 (p.next x1) pos _ _ fun ps F2 h2' tk2 x2 ht hn => ?_
  refine h ((v, .val d) :: ps) F2 h2' tk2 (x1.trans x2) (by rw [List.map_cons, ht]) ⟨Rep.mono x2.up r1, (fun _ _ _ ⟨_, e⟩ => by cases e), ?_⟩
  have weak : ∀ {ps : List (Value × Sl)}, NewsP env F2 h1'.get? h2' ps → NewsP env F2 s.heap.get? h2' ps := by
    intro ps
    induction ps with
    | nil => intro _; trivial
    | cons q ps ih => exact fun hn => ⟨NewSl.up (Ext.refl x2.le) x1.keep hn.1, hn.2.1, ih hn.2.2⟩
  exact weak hn

theorem EVS.consO {e : Expr} {es : List Expr} {ds : List V} {ts : List Sl} (h1 : EVO C n sc r e ds) (h2 : EVS C n sc r es ts)
    (he : ∀ env, starEach (e :: es) env = (false, eval e env) :: starEach es env := by intro _; rfl) : EVS C n sc r (e :: es) (.own ds :: ts) := by
  intro env A s F p pos Q E h
  refine args_cons (h1 env A s F p _ _ fun a vs k F1 h1' tk1 x1 q1 q2 q3 q4 q5 => ?_) (he env)
  refine h2 env A _ F1 (p.next x1) pos _ _ fun ps F2 h2' tk2 x2 ht hn => ?_
  refine h ((.ref a, .own ds) :: ps) F2 h2' tk2 (x1.trans x2) (by rw [List.map_cons, ht])
    ⟨⟨a, rfl, none_after x2 q1 (fun q => by rw [show h1'.get? a = none from q] at q3; cases q3), q2, vs, k, x2.keep _ _ q3, q4.mono x2.up, q5⟩, ?_, ?_⟩
  · rintro q hq ⟨es, e⟩ _ e2
    -- a later list of its own is newer
    have : ∀ {ps : List (Value × Sl)}, NewsP env F2 h1'.get? h2' ps → q ∈ ps → NewSl env F2 h1'.get? h2' q.1 q.2 := by
      intro ps
      induction ps with
      | nil => intro _ hq; cases hq
      | cons z ps ih =>
          intro hn hq
          rcases List.mem_cons.mp hq with rfl | hq
          · exact hn.1
          · exact ih hn.2.2 hq
    have hN := this hn hq
    rw [e] at hN
    obtain ⟨b, w1, _, w3, _⟩ := hN
    rw [e2] at w1; cases w1
    rw [q3] at w3; cases w3
  · have weak : ∀ {ps : List (Value × Sl)}, NewsP env F2 h1'.get? h2' ps → NewsP env F2 s.heap.get? h2' ps := by
      intro ps
      induction ps with
      | nil => intro _; trivial
      | cons q ps ih => exact fun hn => ⟨NewSl.up (Ext.refl x2.le) x1.keep hn.1, hn.2.1, ih hn.2.2⟩
    exact weak hn

inductive UPDs : List (Str × Sl) → List (Str × Sl) → List (Str × Sl) → Prop
  | nil {r : List (Str × Sl)} : UPDs [] r r
  | cons {r r1 r' : List (Str × Sl)} {x : Str} {t : Sl} {l : List (Str × Sl)} : UPD r x t r1 → UPDs l r1 r' → UPDs ((x, t) :: l) r r'

theorem storeSeq {α : Type} {f : α → Value → Sem Unit} {nm : α → Str} {env : Env} {A : Around} {E : Value → Shared → Prop}
    (hf : ∀ (x : α) (v : Value) (s : Shared) (Q : Unit → Shared → Prop), wpAny C.M A (storeName env (nm x) v) Q E s → wpAny C.M A (f x v) Q E s) :
    ∀ (xs : List α) (ps : List (Value × Sl)) (r r' : List (Str × Sl)) (s : Shared) (F G F0 : PM) (Q : Unit → Shared → Prop), xs.length = ps.length → Fst C G F0 env sc r F s.heap →
      (∀ x ∈ xs, sc.names.lookup (nm x) = some .local ∨ sc.names.lookup (nm x) = some .cell) → UPDs ((xs.map nm).zip (ps.map (·.2))) r r' → NewsP env F G s.heap ps →
      (∀ p ∈ ps, (∃ ds, p.2 = .own ds) → ∀ y es, LK r y (.own es) → ¬ VarAt env s.heap y p.1) →
      (∀ h' tk', Fst C G F0 env sc r' F h' → Q () { s with heap := h', toks := tk' }) → wpAny C.M A (assignInOrder (xs.map f) (ps.map (·.1))) Q E s
  | [], [], r, r', s, F, G, F0, Q, _, S, _, U, _, _, hQ => by
    cases U
    exact wpAny_pure (hQ s.heap s.toks S)
  | [], _ :: _, _, _, _, _, _, _, _, hl, _, _, _, _, _, _ => by cases hl
  | _ :: _, [], _, _, _, _, _, _, _, hl, _, _, _, _, _, _ => by cases hl
  | x :: xs, p :: ps, r, r', s, F, G, F0, Q, hl, S, hk, U, hn, hap, hQ => by
    obtain ⟨v, t⟩ := p
    cases U with
    | cons U1 U2 =>
      rename_i r1
      show wpAny C.M A (do holding (ps.map (·.1)) (f x v); assignInOrder (xs.map f) (ps.map (·.1))) Q E s
      refine wpAny_bind (wpAny_holding (hf x v s _ ?_))
      refine storeVar S U1 (hk x (List.mem_cons_self ..)) hn.1 (fun ds e y es _ k => hap _ (List.mem_cons_self ..) ⟨ds, e⟩ y es k) fun h' tk' S' q => ?_
      obtain ⟨q1, q2, q3⟩ := q
      refine storeSeq hf xs ps r1 r' _ F G F0 Q (by simpa using hl) S' (fun y hy => hk y (List.mem_cons_of_mem _ hy)) U2 ?_ ?_ (fun h2 tk2 S2 => hQ h2 tk2 S2)
      · have go : ∀ {ps : List (Value × Sl)}, NewsP env F G s.heap ps → NewsP env F G h' ps := by
          intro ps
          induction ps with
          | nil => intro _; trivial
          | cons z ps ih =>
            refine fun hz => ⟨?_, hz.2.1, ih hz.2.2⟩
            have h1 := hz.1
            obtain ⟨zv, zt⟩ := z
            cases zt with
            | val d => exact h1
            | own ds => obtain ⟨a, w1, w2, w3, vs, k, w4, w5, w6⟩ := h1; exact ⟨a, w1, w2, w3, vs, k, q1 a vs k w4, w5, w6⟩
        exact go hn.2.2
      · intro p hp hown y es k hv
        rcases U1 y _ k with ⟨rfl, e⟩ | ⟨hne, k0⟩
        · have := hv.inj q2
          exact hn.2.1 p hp hown ⟨es, e.symm⟩ this
        · obtain ⟨oa, h1, _⟩ := S.own
          have h3 := (h1 y es k0).1
          have h4 := q3 y _ hne h3
          have h5 := hv.inj h4
          exact hap p (List.mem_cons_of_mem _ hp) hown y es k0 (h5 ▸ h3)

theorem EVS.pre {env : Env} {F' : PM} {s : Shared} {h' : Heap} {ps : List (Value × Sl)} {G : PM} (hn : NewsP env F' s.heap.get? h' ps) (hG : Sub G s.heap.get?) (le : Sub F' h'.get?) : NewsP env F' G h' ps := by
  induction ps with
  | nil => trivial
  | cons q ps ih => exact ⟨NewSl.up (Ext.refl le) hG hn.1, hn.2.1, ih hn.2.2⟩

/-- the tuple that carries them is passed by -/
theorem NewsP.ext {env : Env} {F F' G : PM} {h h' : Heap} (x : Ext F h F' h') : ∀ {ps : List (Value × Sl)}, NewsP env F G h ps → NewsP env F' G h' ps
  | [], _ => trivial
  | _ :: _, hn => ⟨NewSl.up x (Sub.refl _) hn.1, hn.2.1, NewsP.ext x hn.2.2⟩

theorem news_apart {env : Env} {F G F0 : PM} {s0 : Heap} {h : Heap} {ps : List (Value × Sl)} (S : Fst C G F0 env sc r F s0) (hn : NewsP env F s0.get? h ps) :
    ∀ p ∈ ps, (∃ ds, p.2 = .own ds) → ∀ y es, LK r y (.own es) → ¬ VarAt env s0 y p.1 := by
  induction ps with
  | nil => intro p hp; cases hp
  | cons q ps ih =>
    intro p hp
    rcases List.mem_cons.mp hp with rfl | hp
    · rintro ⟨ds, e⟩ y es k hv
      have h1 := hn.1
      rw [e] at h1
      obtain ⟨a, w1, _, w3, _⟩ := h1
      obtain ⟨oa, o1, _⟩ := S.own
      obtain ⟨z1, _, _, vs, kk, z4, _⟩ := o1 y es k
      have := hv.inj z1
      rw [w1] at this; cases this
      rw [w3] at z4; cases z4
    · exact ih hn.2.2 p hp

/-- a, b, .. = x, y, .. : stored one behind the other -/
theorem EX.tupIn {xs : List (Str × Pos)} {elts es : List Expr} {k k2 : Nat} {tpos vpos pos : Pos} {ts : List Sl} {r' : List (Str × Sl)} (he : elts = xs.map fun p => Expr.Name p.1 p.2) (h : EVS C n sc r es ts) (hl : xs.length = ts.length) (hcap : ts.length ≤ 8)
    (hk : ∀ x ∈ xs, sc.names.lookup x.1 = some .local ∨ sc.names.lookup x.1 = some .cell) (U : UPDs ((xs.map (·.1)).zip ts) r r')
    (hs : ∀ env : Env, swapsWithSole [.Tuple elts k tpos] (.Tuple es k2 vpos) pos.line env = pure false := by intro _; rfl)
    (hw : ∀ env : Env, env.scope = sc → swappedStores [.Tuple elts k tpos] (.Tuple es k2 vpos) env = pure none) :
    EX C n sc r (.Assign [.Tuple elts k tpos] (.Tuple es k2 vpos) pos) (.next r') := by
  subst he
  intro env A s F G F0 S ro Q E hq
  refine Assign_Tuple ?_ (hs env) (hw env S.ok.is)
  refine wpAny_Tuple_spliced (h env A s F (S.pre ro) vpos _ _ fun ps F1 h1 tk1 x1 ht hn => ⟨?_, ?_⟩)
  · have : ps.length = ts.length := by rw [← ht, List.length_map]
    rw [List.length_map, this, sizeLine_eq]; exact Nat.le_trans hcap (by decide)
  · have hpl : ps.length = ts.length := by rw [← ht, List.length_map]
    have eqs : ∀ ys : List (Str × Pos), assignEach (ys.map fun p => Expr.Name p.1 p.2) env = ys.map fun p => (false, PySem.assign (.Name p.1 p.2) env) := by
      intro ys
      induction ys with
      | nil => rfl
      | cons y ys ih => show (false, PySem.assign (.Name y.1 y.2) env) :: assignEach (ys.map fun p => Expr.Name p.1 p.2) env = _; rw [ih]; rfl
    have e1 : Ext F1 h1 F1 (h1.push (tupO (ps.map (·.1)))) := Ext.of_keep x1.le (push_keep _ _)
    refine wpAny_assign_Tuple ro.hh (items := (ps.map (·.1)).toArray) ⟨_, Heap.get?_push_size _ rfl, rfl, 0, rfl⟩ ?_ ?_ fun h2 hx2 => ?_
    · rw [eqs, List.length_map, List.size_toArray, List.length_map, hl, hpl]
    · rw [eqs]
      clear hk U hw hs hl
      induction xs with
      | nil => rfl
      | cons y ys ih => rw [List.map_cons, List.findIdx?_cons]; simp [ih]
    · rw [eqs, List.map_map]
      have e2 : Ext F1 (h1.push (tupO (ps.map (·.1)))) F1 h2 := Ext.of_keep e1.le fun b o e => hx2 b o (Nat.ne_of_lt (Heap.lt_size e)) e
      have x3 := (x1.trans e1).trans e2
      have hn3 : NewsP env F1 s.heap.get? h2 ps := NewsP.ext (e1.trans e2) hn
      refine storeSeq (f := fun (p : Str × Pos) v => PySem.assign (.Name p.1 p.2) env v) (nm := (·.1)) (fun x v s Q hw => wpAny_assign_Name hw) xs ps r r' _ F1 G F0 _ (by rw [hl, hpl]) (S.ext x3) hk (by rw [ht]; exact U) (EVS.pre hn3 S.lt.keep x3.le) ?_ (fun h' tk' S' => hq F1 h' tk' S')
      intro p hp hown y es k hv
      have S1 : Fst C G F0 env sc r F1 h2 := S.ext x3
      obtain ⟨oa, o1, _⟩ := S.own
      have z1 := (o1 y es k).1
      have := hv.inj (z1.keeps x3.keep)
      -- the value is one that the frame knew
      have hN : ∀ {ps : List (Value × Sl)}, NewsP env F1 s.heap.get? h2 ps → p ∈ ps → NewSl env F1 s.heap.get? h2 p.1 p.2 := by
        intro ps
        induction ps with
        | nil => intro _ hq; cases hq
        | cons z ps ih =>
            intro hn hq
            rcases List.mem_cons.mp hq with rfl | hq
            · exact hn.1
            · exact ih hn.2.2 hq
      obtain ⟨ds, e⟩ := hown
      have h1' := hN hn3 hp
      rw [e] at h1'
      obtain ⟨a, w1, _, w3, _⟩ := h1'
      obtain ⟨_, _, _, vs, kk, z4, _⟩ := o1 y es k
      rw [w1] at this; cases this
      rw [w3] at z4; cases z4

theorem unpackItems_at {prog : Program} {w : World} {A : Around} {E : Value → Shared → Prop} {s : Shared} {H : Heap} {tk : Nat} {t : Addr} {items : Array Value} {m : Nat} {Q : List Value → Shared → Prop} (hh : A.handled = none) (ht : H.IsTuple t items) (hm : m = items.size)
    (hQ : ∀ h', Heap.ExtBut H.objs.size H h' → Q items.toList { s with heap := h', toks := tk }) : wpAny (model prog w) A (unpackItems (.ref t) m none) Q E { s with heap := H, toks := tk } := by
  subst hm
  exact wpAny_unpackItems_tuple hh ht hQ

/-- a, b = x, y where the stores go from the last to the first -/
theorem EX.tupSw {xs : List (Str × Pos)} {elts es : List Expr} {k k2 : Nat} {tpos vpos pos : Pos} {ts : List Sl} {r' : List (Str × Sl)} (he : elts = xs.map fun p => Expr.Name p.1 p.2) (h : EVS C n sc r es ts) (hl : xs.length = ts.length) (hcap : ts.length ≤ 8)
    (hk : ∀ x ∈ xs, sc.names.lookup x.1 = some .local ∨ sc.names.lookup x.1 = some .cell) (U : UPDs ((xs.map (·.1)).reverse.zip ts.reverse) r r')
    (hs : ∀ env : Env, swapsWithSole [.Tuple elts k tpos] (.Tuple es k2 vpos) pos.line env = pure false := by intro _; rfl)
    (hw : ∀ env : Env, env.scope = sc → swappedStores [.Tuple elts k tpos] (.Tuple es k2 vpos) env = pure (some (xs.map (·.1)))) :
    EX C n sc r (.Assign [.Tuple elts k tpos] (.Tuple es k2 vpos) pos) (.next r') := by
  subst he
  intro env A s F G F0 S ro Q E hq
  refine Assign_Tuple_swapped ?_ (hs env) (hw env S.ok.is)
  refine wpAny_Tuple_spliced (h env A s F (S.pre ro) vpos _ _ fun ps F1 h1 tk1 x1 ht hn => ⟨?_, ?_⟩)
  · have : ps.length = ts.length := by rw [← ht, List.length_map]
    rw [List.length_map, this, sizeLine_eq]; exact Nat.le_trans hcap (by decide)
  · have hpl : ps.length = ts.length := by rw [← ht, List.length_map]
    have e1 : Ext F1 h1 F1 (h1.push (tupO (ps.map (·.1)))) := Ext.of_keep x1.le (push_keep _ _)
    have hsz : (ps.map (·.1)).toArray.size = (xs.map (·.1)).length := by rw [List.size_toArray, List.length_map, List.length_map, hl, hpl]
    have hT : (h1.push (tupO (ps.map (·.1)))).IsTuple h1.objs.size (ps.map (·.1)).toArray := ⟨_, Heap.get?_push_size _ rfl, rfl, 0, rfl⟩
    refine unpackItems_at ro.hh hT hsz.symm fun h2 hx2 => ?_
    have e2 : Ext F1 (h1.push (tupO (ps.map (·.1)))) F1 h2 := Ext.of_keep e1.le fun b o e => hx2 b o (Nat.ne_of_lt (Heap.lt_size e)) e
    have x3 := (x1.trans e1).trans e2
    have hn3 : NewsP env F1 s.heap.get? h2 ps := NewsP.ext (e1.trans e2) hn
    have erev : (ps.map (·.1)).toArray.toList.reverse = ps.reverse.map (·.1) := by simp
    rw [erev]
    show wpAny C.M A (assignInOrder (((xs.map (·.1)).reverse).map fun x v => bindName env x v) (ps.reverse.map (·.1))) (fun _ => Q .next) E { s with heap := h2, toks := tk1 }
    refine storeSeq (f := fun (x : Str) v => bindName env x v) (nm := id) (fun x v s Q hw => wpAny_bindName hw) (xs.map (·.1)).reverse ps.reverse r r' { s with heap := h2, toks := tk1 } F1 G F0 (fun _ => Q .next) (by simp [hl, hpl]) (S.ext x3) (fun x hx => ?_) (by
        rw [List.map_id, List.map_reverse, ht]; exact U) (NewsP.rev (EVS.pre hn3 S.lt.keep x3.le)) ?_ (fun h' tk' S' => hq F1 h' tk' S')
    · obtain ⟨y, hy, rfl⟩ := List.mem_map.mp (List.mem_reverse.mp hx)
      exact hk y hy
    · intro p hp hown y es k hv
      have hp := List.mem_reverse.mp hp
      obtain ⟨oa, o1, _⟩ := S.own
      have z1 := (o1 y es k).1
      have := hv.inj (z1.keeps x3.keep)
      have hN : ∀ {ps : List (Value × Sl)}, NewsP env F1 s.heap.get? h2 ps → p ∈ ps → NewSl env F1 s.heap.get? h2 p.1 p.2 := by
        intro ps
        induction ps with
        | nil => intro _ hq; cases hq
        | cons z ps ih =>
            intro hn hq
            rcases List.mem_cons.mp hq with rfl | hq
            · exact hn.1
            · exact ih hn.2.2 hq
      obtain ⟨ds, e⟩ := hown
      have h1' := hN hn3 hp
      rw [e] at h1'
      obtain ⟨a, w1, _, w3, _⟩ := h1'
      obtain ⟨_, _, _, vs, kk, z4, _⟩ := o1 y es k
      rw [w1] at this; cases this
      rw [w3] at z4; cases z4

theorem newsOfReps {env : Env} {F G : PM} {h : Heap} : ∀ {vs : List Value} {ds : List V}, Reps F vs ds → ∃ ps : List (Value × Sl), ps.map (·.1) = vs ∧ ps.map (·.2) = ds.map .val ∧ NewsP env F G h ps ∧ ∀ p ∈ ps, ¬ ∃ es, p.2 = .own es
  | vs, [], hr => by unfold Reps at hr; subst hr; exact ⟨[], rfl, rfl, trivial, fun _ h => nomatch h⟩
  | vs, d :: ds, hr => by
    unfold Reps at hr
    obtain ⟨v, rest, rfl, h1, h2⟩ := hr
    obtain ⟨ps, e1, e2, e3, e4⟩ := newsOfReps (env := env) (G := G) (h := h) h2
    refine ⟨(v, .val d) :: ps, by rw [List.map_cons, e1], by rw [List.map_cons, e2]; rfl, ⟨h1, (fun _ _ _ ⟨_, e⟩ => by cases e), e3⟩, fun p hp => ?_⟩
    rcases List.mem_cons.mp hp with rfl | hp
    · rintro ⟨es, e⟩; cases e
    · exact e4 p hp

/-- a, b, .. = a tuple's value -/
theorem EX.tupV {xs : List (Str × Pos)} {elts : List Expr} {e : Expr} {k : Nat} {tpos pos : Pos} {ds : List V} {r' : List (Str × Sl)} (he : elts = xs.map fun p => Expr.Name p.1 p.2) (h : EV C n sc r e (.tup ds)) (hl : xs.length = ds.length)
    (hk : ∀ x ∈ xs, sc.names.lookup x.1 = some .local ∨ sc.names.lookup x.1 = some .cell) (U : UPDs ((xs.map (·.1)).zip (ds.map .val)) r r')
    (hs : ∀ env : Env, swapsWithSole [.Tuple elts k tpos] e pos.line env = pure false := by intro _; rfl)
    (hw : ∀ env : Env, env.scope = sc → swappedStores [.Tuple elts k tpos] e env = pure none := by intro _ _; rfl) :
    EX C n sc r (.Assign [.Tuple elts k tpos] e pos) (.next r') := by
  subst he
  intro env A s F G F0 S ro Q E hq
  refine Assign_Tuple (h env A s F (S.pre ro) _ _ fun v F1 h1 tk1 x1 r1 => ?_) (hs env) (hw env S.ok.is)
  obtain ⟨t, vs, rfl, ht, hr, hc⟩ := r1.tup'
  have eqs : ∀ ys : List (Str × Pos), assignEach (ys.map fun p => Expr.Name p.1 p.2) env = ys.map fun p => (false, PySem.assign (.Name p.1 p.2) env) := by
    intro ys
    induction ys with
    | nil => rfl
    | cons y ys ih => show (false, PySem.assign (.Name y.1 y.2) env) :: assignEach (ys.map fun p => Expr.Name p.1 p.2) env = _; rw [ih]; rfl
  refine wpAny_assign_Tuple ro.hh (items := vs.toArray) ⟨_, x1.le _ _ ht, rfl, 0, rfl⟩ ?_ ?_ fun h2 hx2 => ?_
  · rw [eqs, List.length_map, List.size_toArray, hr.len, hl]
  · rw [eqs]
    clear hk U hw hs hl
    induction xs with
    | nil => rfl
    | cons y ys ih => rw [List.map_cons, List.findIdx?_cons]; simp [ih]
  · rw [eqs, List.map_map]
    have e2 : Ext F1 h1 F1 h2 := Ext.of_keep x1.le fun b o e => hx2 b o (Nat.ne_of_lt (Heap.lt_size e)) e
    have x3 := x1.trans e2
    obtain ⟨ps, q1, q2, q3, q4⟩ := newsOfReps (env := env) (G := G) (h := h2) hr
    have q1' : vs.toArray.toList = ps.map (·.1) := by rw [q1]
    rw [q1']
    refine storeSeq (f := fun (p : Str × Pos) v => PySem.assign (.Name p.1 p.2) env v) (nm := (·.1)) (fun x v s Q hw => wpAny_assign_Name hw) xs ps r r' _ F1 G F0 _ (by
        have e1 : ps.length = vs.length := by rw [← q1, List.length_map]
        rw [e1, hr.len, hl]) (S.ext x3) hk (by rw [q2]; exact U) q3 (fun p hp ho => absurd ho (q4 p hp)) (fun h' tk' S' => hq F1 h' tk' S')
end
end Mine
end
section
open PySem PySem.W PyProof.Rows PySem.Calls PySem.SeqAt
namespace Mine

theorem Fst.ownAt {C : Cx} {G F0 F : PM} {env : Env} {sc : Scope} {r : List (Str × Sl)} {h : Heap} (S : Fst C G F0 env sc r F h) {x : Str} {ds : List V} (k : LK r x (.own ds)) :
    ∃ a, OwnAt env F G h x a ds ∧ ∀ (h' : Heap) (r' : List (Str × Sl)) (ds' : List V) (vs' : List Value) (k' : Nat), Heap.SameBut a h h' → h'.get? a = some (lstO vs' k') → Reps F vs' ds' → ds'.length ≤ cap → UPD r x (.own ds') r' → Fst C G F0 env sc r' F h' := by
  obtain ⟨oa, h1, h2⟩ := S.own
  have o := h1 x ds k
  refine ⟨oa x, o, fun h' r' ds' vs' k' hs hg hR hc U => ?_⟩
  obtain ⟨w1, w2, w3, vs, kk, w4, w5, w6⟩ := o
  have other : ∀ b ob, b ≠ oa x → h.get? b = some ob → h'.get? b = some ob := fun b ob hb e => (hs.2 b hb).trans e
  have locNe : env.locals ≠ oa x := fun e => by
    obtain ⟨_, _, m, o, es, ep, ho, hd, _⟩ := S.loc
    rw [e, w4] at ho; cases ho; cases hd
  have cellNe : ∀ y c, env.cells.lookup y = some c → c ≠ oa x := fun y c hc e => by
    obtain ⟨_, _, v, o, ho, hd⟩ := S.cell y c hc
    rw [e, w4] at ho; cases ho; cases hd
  have var : ∀ y w, VarAt env h y w → VarAt env h' y w := fun y w a => by
    rcases a with ⟨e, m, hn, hm⟩ | ⟨e, c, hc, o, ho, hd⟩
    · exact .inl ⟨e, m, hn.at' fun o e => other _ o locNe e, hm⟩
    · exact .inr ⟨e, c, hc, o, other _ _ (cellNe y c hc) ho, hd⟩
  refine ⟨S.ok, ⟨S.lt.base, fun b ob e => other b ob (by rintro rfl; rw [w2] at e; cases e) (S.lt.le b ob e), fun b ob e => other b ob (by rintro rfl; rw [w3] at e; cases e) (S.lt.keep b ob e), S.lt.up, S.lt.new⟩, ?_, fun y c hc => ?_, S.apart, S.hasc, fun y d q => ?_, ⟨oa, fun y es q => ?_, fun y z es fs q1 q2 e => ?_⟩⟩
  · obtain ⟨a, b, m, hn⟩ := S.loc
    exact ⟨a, b, m, hn.at' fun o e => other _ o locNe e⟩
  · obtain ⟨a, b, v, o, ho, hd⟩ := S.cell y c hc
    exact ⟨a, b, v, o, other _ _ (cellNe y c hc) ho, hd⟩
  · rcases U y _ q with ⟨_, e⟩ | ⟨_, q⟩
    · cases e
    · obtain ⟨v, a, b⟩ := S.vals y d q
      exact ⟨v, var y v a, b⟩
  · rcases U y _ q with ⟨rfl, e⟩ | ⟨hne, q⟩
    · cases e
      exact ⟨var _ _ w1, w2, w3, vs', k', hg, hR, hc⟩
    · obtain ⟨z1, z2, z3, ws, kw, z4, z5, z6⟩ := h1 y es q
      exact ⟨var _ _ z1, z2, z3, ws, kw, other _ _ (fun e => hne (h2 y x es ds q k e)) z4, z5, z6⟩
  · rcases U y _ q1 with ⟨rfl, _⟩ | ⟨hn1, q1⟩ <;> rcases U z _ q2 with ⟨rfl, _⟩ | ⟨hn2, q2⟩
    · rfl
    · exact h2 _ z ds fs k q2 e
    · exact h2 y _ es ds q1 k e
    · exact h2 y z es fs q1 q2 e

section
variable {C : Cx} {n : Nat} {sc : Scope} {r : List (Str × Sl)}

theorem EVO.list {es : List Expr} {pos : Pos} {ds : List V} (h : EVs C n sc r es ds) (hl : ds.length ≤ cap := by decide) : EVO C n sc r (.List es pos) ds := by
  intro env A s F p Q E hq
  refine wpAny_List_spliced (h env A s F p pos _ _ fun vs F1 h1 tk1 x1 r1 => ⟨?_, ?_⟩)
  · rw [r1.len, sizeLine_eq]; exact Nat.le_trans hl (by decide)
  · have e1 : Ext F1 h1 F1 (h1.push (lstO vs 0)) := Ext.of_keep x1.le (push_keep _ _)
    refine hq h1.objs.size vs 0 F1 _ tk1 (x1.trans e1) (none_of_le x1.le (fresh_size _)) ?_ (Heap.get?_push_size _ rfl) r1 hl
    cases q : s.heap.get? h1.objs.size with
    | none => rfl
    | some o => have := x1.keep _ _ q; rw [fresh_size] at this; cases this

theorem repl_flat (v : Value) : ∀ k : Nat, List.foldl (fun x1 x2 => x1 ++ x2) (#[] : Array Value) (List.replicate k #[v]) = (List.replicate k v).toArray := by
  intro k
  have go : ∀ (k : Nat) (acc : List Value), List.foldl (fun x1 x2 => x1 ++ x2) acc.toArray (List.replicate k #[v]) = (acc ++ List.replicate k v).toArray := by
    intro k
    induction k with
    | zero => intro acc; simp
    | succ k ih =>
      intro acc
      rw [List.replicate_succ, List.foldl_cons]
      have : (acc.toArray ++ #[v] : Array Value) = (acc ++ [v]).toArray := by simp
      rw [this, ih, List.append_assoc, List.replicate_succ]; rfl
  have := go k []
  simpa using this

theorem Reps.replicate {F : PM} {v : Value} {d : V} (h : Rep F v d) : ∀ k : Nat, Reps F (List.replicate k v) (List.replicate k d)
  | 0 => Reps.nil
  | k + 1 => by rw [List.replicate_succ, List.replicate_succ]; exact Reps.cons h (Reps.replicate h k)

/-- [e] * k -/
theorem EVO.mul {e i : Expr} {lp pos : Pos} {d : V} {k : Int} (h1 : EVs C n sc r [e] [d]) (h2 : EV C n sc r i (.int k)) (hk : k ≤ cap) (hlo : -(2 ^ 62 : Int) ≤ k) : EVO C n sc r (.BinOp (.List [e] lp) .Mult i pos) (List.replicate k.toNat d) := by
  intro env A s F p Q E hq
  refine wpAny_BinOp (EVO.list h1 (by show 1 ≤ cap; decide) env A s F p _ _ fun a vs kk F1 h1' tk1 x1 q1 q2 q3 q4 q5 => ?_)
  refine h2 env A _ F1 (p.next x1) _ _ fun v2 F2 h2' tk2 x2 r2 => ?_
  obtain ⟨t, rfl⟩ := r2.int'
  obtain ⟨w, rfl, rw1⟩ := q4.one
  have hl := x2.keep _ _ q3
  unfold cap at hk
  refine wpAny_binaryOp_repeat_ref (T := "list") (U := "int") (by decide) ⟨_, hl, rfl⟩ (fun s' => typeIs_int s' k t) noFill_list_mul PySem.F.fills_int_mul PySem.F.slot_int_rmul repeat_list PySem.F.slot_int_index.lookup
    (call_meets PySem.F.slot_int_rmul (typeIs_int _ k t) PySem.F.entry_int_rmul (PySem.F.args_int_rmul_2 _ _) (int___rmul___int_list k t a _ kk)
      ⟨hl, rfl, ⟨_, hl, rfl⟩, call_meets PySem.F.slot_list_mul ⟨_, hl, rfl⟩ PySem.F.entry_list_mul (PySem.F.args_list_mul_2 _ _)
        (AutoListH.list___mul___list_int_3 a _ kk k t (by simp [Builtin.List.listFitsIndex]; omega) (by simp; omega) (by simp [Builtin.List.listTooLong, sizeLine]; omega))
        ⟨hl, ?_⟩⟩)
  have e0 : (#[w] : Array Value).isEmpty = false := rfl
  have e1 : List.foldl (fun x1 x2 => x1 ++ x2) (#[] : Array Value) (List.replicate (if ([w] : List Value).toArray.isEmpty = true then 0 else k.toNat) ([w] : List Value).toArray) = (List.replicate k.toNat w).toArray := by
    rw [show ([w] : List Value).toArray.isEmpty = false from rfl]
    simp only [Bool.false_eq_true, if_false]
    exact repl_flat w k.toNat
  rw [e1]
  have e2 : Ext F2 h2' F2 (h2'.push (lstO (List.replicate k.toNat w) 0)) := Ext.of_keep x2.le (push_keep _ _)
  refine hq h2'.objs.size (List.replicate k.toNat w) 0 F2 _ tk2 ((x1.trans x2).trans e2) (none_of_le x2.le (fresh_size _)) ?_ (Heap.get?_push_size _ rfl) ((Reps.replicate (rw1.mono x2.up) _)) (by rw [List.length_replicate]; unfold cap; omega)
  cases q : s.heap.get? h2'.objs.size with
  | none => rfl
  | some o => have := (x1.trans x2).keep _ _ q; rw [fresh_size] at this; cases this

theorem EX.assignO {x : Str} {px pos : Pos} {e : Expr} {ds : List V} {r' : List (Str × Sl)} (h : EVO C n sc r e ds) (U : UPD r x (.own ds) r') (hk : sc.names.lookup x = some .local ∨ sc.names.lookup x = some .cell)
    (hs : ∀ env : Env, env.scope = sc → swapsWith e (some (.Name x px)) pos.line env = pure false := by intro _ _; rfl) : EX C n sc r (.Assign [.Name x px] e pos) (.next r') := by
  intro env A s F G F0 S ro Q E hq
  refine wpAny_Assign_Name (h env A s F (S.pre ro) _ _ fun a vs kk F1 h1 tk1 x1 q1 q2 q3 q4 q5 => ?_) (hs env S.ok.is)
  have hG : G a = none := by
    cases q : G a with
    | none => rfl
    | some o => have := S.lt.keep a o q; rw [q2] at this; cases this
  refine storeVar (S.ext x1) U hk ⟨a, rfl, q1, hG, vs, kk, q3, q4, q5⟩ (fun ds' e y es hne k hv => ?_) fun h' tk' S' _ => hq F1 h' tk' S'
  obtain ⟨oa, o1, _⟩ := S.own
  obtain ⟨z1, _, _, ws, kw, z4, _⟩ := o1 y es k
  have := hv.inj (z1.keeps x1.keep)
  cases this
  rw [q2] at z4; cases z4

/-- a list of its own is frozen -/
theorem EXs.freeze {x : Str} {ds : List V} {r1 : List (Str × Sl)} {ss : List Stmt} {out : Out} (k : LK r x (.own ds)) (U : UPD r x (.val (.lst ds)) r1) (h : EXs C n sc r1 ss out) : EXs C n sc r ss out := by
  intro env A s F G F0 S ro Q E hq
  obtain ⟨oa, o1, o2⟩ := S.own
  obtain ⟨w1, w2, w3, vs, kk, w4, w5, w6⟩ := o1 x ds k
  have addNe : ∀ b, b ≠ oa x → PM.add F (oa x) (lstO vs kk) b = F b := fun b hb => by unfold PM.add; rw [if_neg hb]
  have up : Sub F (PM.add F (oa x) (lstO vs kk)) := fun b o e => by rw [addNe b (by rintro rfl; rw [w2] at e; cases e)]; exact e
  have le : Sub (PM.add F (oa x) (lstO vs kk)) s.heap.get? := fun b o e => by
    unfold PM.add at e
    by_cases c : b = oa x
    · subst c; rw [if_pos rfl] at e; cases e; exact w4
    · rw [if_neg c] at e; exact S.lt.le b o e
  have locNe : env.locals ≠ oa x := fun e => by
    obtain ⟨_, _, m, o, es, ep, ho, hd, _⟩ := S.loc
    rw [e, w4] at ho; cases ho; cases hd
  refine h env A s (PM.add F (oa x) (lstO vs kk)) G F0 ⟨S.ok, ⟨S.lt.base.trans up, le, S.lt.keep, S.lt.up.trans up, fun a e ne => ?_⟩, ?_, fun y c hc => ?_, S.apart, S.hasc, fun y d q => ?_, ⟨oa, fun y es q => ?_, fun y z es fs q1 q2 e => ?_⟩⟩ ro Q E hq
  · by_cases c : a = oa x
    · rw [c]; exact w3
    · rw [addNe a c] at ne; exact S.lt.new a e ne
  · exact ⟨by rw [addNe _ locNe]; exact S.loc.1, S.loc.2⟩
  · obtain ⟨a, b, v, o, ho, hd⟩ := S.cell y c hc
    refine ⟨?_, b, v, o, ho, hd⟩
    rw [addNe c (fun e => by rw [e, w4] at ho; cases ho; cases hd)]; exact a
  · rcases U y _ q with ⟨rfl, e⟩ | ⟨hne, q⟩
    · cases e; exact ⟨_, w1, rep_lst w5 w2 w6⟩
    · obtain ⟨v, a, b⟩ := S.vals y d q
      exact ⟨v, a, b.mono up⟩
  · rcases U y _ q with ⟨_, e⟩ | ⟨hne, q⟩
    · cases e
    · obtain ⟨z1, z2, z3, ws, kw, z4, z5, z6⟩ := o1 y es q
      exact ⟨z1, by rw [addNe _ fun e => hne (o2 y x es ds q k e)]; exact z2, z3, ws, kw, z4, z5.mono up, z6⟩
  · rcases U y _ q1 with ⟨_, e1⟩ | ⟨_, q1⟩
    · cases e1
    · rcases U z _ q2 with ⟨_, e2⟩ | ⟨_, q2⟩
      · cases e2
      · exact o2 y z es fs q1 q2 e

theorem notInteractive {env : Env} (ok : EnvOk env sc) : interactive env = false := by
  unfold interactive; rw [ok.is, ok.fk]; rfl

theorem EX.expr {e : Expr} {pos : Pos} {d : V} (h : EV C n sc r e d) (hs : ∀ env : Env, swapsWith e none pos.line env = pure false := by intro _; rfl) : EX C n sc r (.Expr e pos) (.next r) := by
  intro env A s F G F0 S ro Q E hq
  exact wpAny_Expr_any (h env A s F (S.pre ro) _ _ fun v F1 h1 tk1 x1 r1 => hq F1 h1 tk1 (S.ext x1)) (notInteractive S.ok) (hs env)

/-- x.append(e) on a list of its own -/
theorem EX.append {x : Str} {pn ap cp pos : Pos} {e : Expr} {ds : List V} {d : V} {r' : List (Str × Sl)} (k : LK r x (.own ds)) (h : EV C n sc r e d) (hl : ds.length + 1 ≤ cap) (U : UPD r x (.own (ds ++ [d])) r')
    (hline : (ap.endLine == cp.line) = true) (hse : ∀ env, starEach [e] env = [(false, eval e env)] := by intro _; rfl)
    (hbase : ∀ env, attributeBase (.Name x pn) "append" env (eval (.Name x pn) env) = eval (.Name x pn) env := by intro _; rfl)
    (hd : (x == ("__debug__" : Str)) = false := by decide) (hcd : (x == ("__classdict__" : Str)) = false := by decide) :
    EX C n sc r (.Expr (.Call (.Attribute (.Name x pn) "append" ap) [e] [] cp) pos) (.next r') := by
  intro env A s F G F0 S ro Q E hq
  refine wpAny_Expr_any ?_ (notInteractive S.ok) rfl
  refine wpAny_Call_method1_late (hbase env) hline (by rw [hse env]; rfl) ?_
  obtain ⟨a, ⟨w1, w2, w3, vs, kk, w4, w5, w6⟩, turn⟩ := S.ownAt k
  refine wpAny_Name (loadVar S.ok w1 ?_ hcd) hd
  refine ⟨"list", "list.append", PySem.F.plainAttrs_list, PySem.F.slot_list_append, PySem.F.type_list_append, ⟨_, w4, rfl⟩, fun b e => by cases e; exact ⟨_, w4, rfl⟩, ?_⟩
  refine callWith_builtin rfl (evalArgs_plain (spliced_cons (h env A s F (S.pre ro) _ _ fun v F1 h1 tk1 x1 r1 => spliced_nil ?_)))
  have S1 := S.ext x1
  obtain ⟨a', ⟨y1, y2, y3, vs', kk', y4, y5, y6⟩, turn'⟩ := S1.ownAt k
  have : a' = a := by have := y1.inj (w1.keeps x1.keep); cases this; rfl
  subst this
  refine wpAny_list_append_plain (items := vs'.toArray) ⟨kk', y4⟩ (fun h2 hl2 hs2 => ?_) (by rw [List.size_toArray, y5.len, sizeLine_eq]; exact Nat.le_trans y6 (by decide))
  obtain ⟨k2, e2⟩ := hl2
  exact hq F1 h2 tk1 (turn' h2 r' _ (vs' ++ [v]) k2 hs2 (by simpa using e2) (y5.snoc r1) (by rw [List.length_append]; exact hl) U)

theorem extract_eq {vs : List Value} {k : Nat} {v : Value} : (vs.toArray.extract 0 k).push v ++ vs.toArray.extract k = (vs.take k ++ v :: vs.drop k).toArray := by
  apply Array.ext'
  simp [List.take_of_length_le]

theorem mapSeq_lst {f : Array Value → Array Value} {vs ws : List Value} {m : Nat} (h : f vs.toArray = ws.toArray) : ∃ k, Obj.mapSeq f (lstO vs m) = lstO ws k :=
  ⟨if (f vs.toArray).size == vs.toArray.size then m else m + 1, by
    show ({ cls := .type "list", data := .seq (f vs.toArray) (if (f vs.toArray).size == vs.toArray.size then m else m + 1) } : Obj) = _
    rw [h]⟩

/-- x.insert(i, e) on a list of its own -/
theorem EX.insert {x : Str} {pn ap cp pos : Pos} {i e : Expr} {ds : List V} {j : Int} {d : V} {r' : List (Str × Sl)} (k : LK r x (.own ds)) (hi : EV C n sc r i (.int j)) (h : EV C n sc r e d) (hj : 0 ≤ j ∧ j ≤ ds.length) (hl : ds.length + 1 ≤ cap)
    (U : UPD r x (.own (ds.take j.toNat ++ d :: ds.drop j.toNat)) r')
    (hline : (ap.endLine == cp.line) = true) (hse : ∀ env, starEach [i, e] env = [(false, eval i env), (false, eval e env)] := by intro _; rfl)
    (hbase : ∀ env, attributeBase (.Name x pn) "insert" env (eval (.Name x pn) env) = eval (.Name x pn) env := by intro _; rfl)
    (hd : (x == ("__debug__" : Str)) = false := by decide) (hcd : (x == ("__classdict__" : Str)) = false := by decide) :
    EX C n sc r (.Expr (.Call (.Attribute (.Name x pn) "insert" ap) [i, e] [] cp) pos) (.next r') := by
  intro env A s F G F0 S ro Q E hq
  refine wpAny_Expr_any ?_ (notInteractive S.ok) rfl
  refine wpAny_Call_method2_late (hbase env) hline (by rw [hse env]; rfl) ?_
  obtain ⟨a, ⟨w1, w2, w3, vs, kk, w4, w5, w6⟩, turn⟩ := S.ownAt k
  refine wpAny_Name (loadVar S.ok w1 ?_ hcd) hd
  refine ⟨"list", "list.insert", PySem.F.plainAttrs_list, PySem.F.slot_list_insert, PySem.F.type_list_insert, ⟨_, w4, rfl⟩, fun b e => by cases e; exact ⟨_, w4, rfl⟩, ?_⟩
  refine callWith_builtin rfl (evalArgs_plain (spliced_cons (hi env A s F (S.pre ro) _ _ fun v0 F0' h0 tk0 x0 r0 => spliced_cons (h env A _ F0' ((S.pre ro).next x0) _ _ fun v F1 h1 tk1 x1 r1 => spliced_nil ?_))))
  obtain ⟨t, rfl⟩ := r0.int'
  have x2 := x0.trans x1
  have S1 := S.ext x2
  obtain ⟨a', ⟨y1, y2, y3, vs', kk', y4, y5, y6⟩, turn'⟩ := S1.ownAt k
  have : a' = a := by have := y1.inj (w1.keeps x2.keep); cases this; rfl
  subst this
  unfold cap at y6 hl
  have hf : ¬(!Builtin.List.listFitsIndex j) = true := by
    have : Builtin.List.listFitsIndex j = true := by unfold Builtin.List.listFitsIndex; simp only [Bool.and_eq_true, decide_eq_true_eq]; omega
    rw [this]; simp
  refine call_meets PySem.F.slot_list_insert ⟨_, y4, rfl⟩ PySem.F.entry_list_insert (PySem.F.args_list_insert_3 _ _ _) (PySem.AutoSeq1.list_insert_list_int_val_1 a' _ kk' j t v hf (by rw [List.size_toArray, y5.len, sizeLine_eq]; exact Nat.le_trans y6 (by decide))) ⟨y4, ?_⟩
  have hlen := y5.len
  have hgo := Heap.get?_update_self (Obj.mapSeq fun xs => have k := if j < 0 then (j + ((xs.size : Nat) : Int)).toNat else min j.toNat xs.size; (xs.extract 0 k).push v ++ xs.extract k) y4 rfl
  have hk : (if j < 0 then (j + ((vs'.toArray.size : Nat) : Int)).toNat else min j.toNat vs'.toArray.size) = j.toNat := by
    rw [if_neg (by omega), List.size_toArray, hlen]; omega
  have hg : ∃ k', (h1.update a' (Obj.mapSeq fun xs => have k := if j < 0 then (j + ((xs.size : Nat) : Int)).toNat else min j.toNat xs.size; (xs.extract 0 k).push v ++ xs.extract k)).get? a' = some (lstO (vs'.take j.toNat ++ v :: vs'.drop j.toNat) k') := by
    obtain ⟨k', e⟩ := mapSeq_lst (f := fun xs : Array Value => have k := if j < 0 then (j + ((xs.size : Nat) : Int)).toNat else min j.toNat xs.size; (xs.extract 0 k).push v ++ xs.extract k) (vs := vs') (ws := vs'.take j.toNat ++ v :: vs'.drop j.toNat) (m := kk') (by
      simp only [hk, extract_eq])
    exact ⟨k', hgo.trans (congrArg some e)⟩
  obtain ⟨k', hg⟩ := hg
  refine hq F1 _ tk1 (turn' _ r' _ (vs'.take j.toNat ++ v :: vs'.drop j.toNat) k' (Heap.SameBut.update ..) hg ((y5.take _).append (Reps.cons r1 (y5.drop _))) ?_ U)
  · rw [List.length_append, List.length_cons, List.length_take, List.length_drop]; unfold cap; omega

theorem setItem_upd {prog : Program} {w : World} {A : Around} {E : Value → Shared → Prop} {s : Shared} {l : Addr} {vs : List Value} {m : Nat} {k : Int} {t : Tok} {v : Value} {Q : Unit → Shared → Prop} (ho : s.heap.get? l = some (lstO vs m))
    (h0 : 0 ≤ k) (hfit : k < 2 ^ 63) (hn : k < vs.length)
    (hQ : Q () { s with heap := s.heap.update l (Obj.mapSeq (·.setIfInBounds k.toNat v)) }) :
    wpAny (model prog w) A (setItem (.ref l) (.int k t) v) Q E s := by
  have hl : s.heap.IsList l vs.toArray := ⟨_, ho, rfl, m, rfl⟩
  unfold setItem
  try with_reducible refine wpAny_holding ?_
  first | refine wpAny_bind (wpAny_pure ?_) | skip
  refine wpAny_bind (wpAny_sequenceKey hl.typeIs (by decide) ?_)
  refine wpAny_bind (wpAny_callSpecial?_slot (name := Str.ofString "__setitem__") hl.typeIs slot_list_setitem
    (wpAny_call_entry slot_list_setitem hl.typeIs entry_list_setitem ?_ (args_list_setitem _ _ _)))
  show wpAny _ _ (Builtin.List.listSubscript? (.int k t) >>= _) _ _ s
  refine wpAny_bind (wpAny_listSubscript_int (fitsIndex_of h0 hfit) ?_)
  obtain ⟨j, rfl⟩ := Int.eq_ofNat_of_zero_le h0
  have hj : j < vs.length := by omega
  have hx' : vs.toArray[j]? = some vs[j] := by simp [hj]
  show wpAny _ _ ((seqItemAt l j >>= fun r => pure (r.map (j, ·))) >>= _) _ _ s
  refine wpAny_bind (wpAny_bind (wpAny_seqItemAt ho rfl (wpAny_pure ?_)))
  rw [hx']
  show wpAny _ _ (setSeqItemAt l j v >>= _) _ _ s
  refine wpAny_bind (wpAny_setSeqItemAt ho rfl ?_)
  first
    | exact wpAny_bind (wpAny_pure (wpAny_pure ⟨.none, rfl, wpAny_pure hQ⟩))
    | exact wpAny_pure ⟨.none, rfl, wpAny_pure hQ⟩

theorem Reps.set {F : PM} {v : Value} {d : V} : ∀ {vs : List Value} {ds : List V}, Reps F vs ds → Rep F v d → ∀ (j : Nat), Reps F (vs.set j v) (ds.set j d)
  | vs, [], h, _, j => by unfold Reps at h; subst h; exact Reps.nil
  | vs, _ :: _, h, hv, 0 => by
    unfold Reps at h
    obtain ⟨w, r, rfl, _, hr⟩ := h
    exact Reps.cons hv hr
  | vs, _ :: _, h, hv, j + 1 => by
    unfold Reps at h
    obtain ⟨w, r, rfl, hw, hr⟩ := h
    exact Reps.cons hw (hr.set hv j)

/-- x[i] = e on a list of its own -/
theorem EX.setItem {x : Str} {pn sp pos : Pos} {i e : Expr} {ds : List V} {j : Int} {d : V} {r' : List (Str × Sl)} (k : LK r x (.own ds)) (h : EV C n sc r e d) (hi : EV C n sc r i (.int j)) (hj : 0 ≤ j ∧ j < ds.length)
    (U : UPD r x (.own (ds.set j.toNat d)) r') (hs : ∀ env : Env, swapsWith e (some (.Subscript (.Name x pn) i sp)) pos.line env = pure false := by intro _; rfl)
    (hd : (x == ("__debug__" : Str)) = false := by decide) (hcd : (x == ("__classdict__" : Str)) = false := by decide) :
    EX C n sc r (.Assign [.Subscript (.Name x pn) i sp] e pos) (.next r') := by
  intro env A s F G F0 S ro Q E hq
  refine wpAny_Assign_Subscript (h env A s F (S.pre ro) _ _ fun v F1 h1 tk1 x1 r1 => ?_) (hs env)
  have S1 := S.ext x1
  obtain ⟨a, ⟨w1, w2, w3, vs, kk, w4, w5, w6⟩, turn⟩ := S1.ownAt k
  refine wpAny_Name (loadVar S.ok w1 ?_ hcd) hd
  refine hi env A _ F1 ((S.pre ro).next x1) _ _ fun v2 F2 h2 tk2 x2 r2 => ?_
  obtain ⟨t, rfl⟩ := r2.int'
  have S2 := S1.ext (h' := h2) x2
  obtain ⟨a', ⟨y1, y2, y3, vs', kk', y4, y5, y6⟩, turn'⟩ := S2.ownAt k
  have : a' = a := by have := y1.inj (w1.keeps x2.keep); cases this; rfl
  subst this
  have hlen := y5.len
  unfold cap at y6
  refine setItem_upd (vs := vs') y4 hj.1 (by omega) (by rw [hlen]; exact hj.2) ?_
  have hg : ∃ k', (h2.update a' (Obj.mapSeq (·.setIfInBounds j.toNat v))).get? a' = some (lstO (vs'.set j.toNat v) k') := by
    obtain ⟨k', e⟩ := mapSeq_lst (f := fun xs : Array Value => xs.setIfInBounds j.toNat v) (vs := vs') (ws := vs'.set j.toNat v) (m := kk') (by simp)
    exact ⟨k', (Heap.get?_update_self _ y4 rfl).trans (congrArg some e)⟩
  obtain ⟨k', hg⟩ := hg
  exact hq F2 _ tk2 (turn' _ r' _ (vs'.set j.toNat v) k' (Heap.SameBut.update ..) hg ((y5.set (r1.mono x2.up) _)) (by rw [List.length_set]; exact y6) U)
end
end Mine
end
section
open PySem PySem.W PyProof.Rows PySem.Calls PySem.SeqAt
namespace Mine

section
variable {C : Cx} {n : Nat} {sc : Scope} {r : List (Str × Sl)}

theorem EX.augSub {x : Str} {px pos : Pos} {e : Expr} {a b : Int} {r' : List (Str × Sl)} (k : LK r x (.val (.int a))) (h : EV C n sc r e (.int b)) (U : UPD r x (.val (.int (a - b))) r') (hk : sc.names.lookup x = some .local ∨ sc.names.lookup x = some .cell)
    (hcd : (x == ("__classdict__" : Str)) = false := by decide) : EX C n sc r (.AugAssign (.Name x px) .Sub e pos) (.next r') := by
  intro env A s F G F0 S ro Q E hq
  obtain ⟨v, hv, rv⟩ := S.vals x _ k
  obtain ⟨t, rfl⟩ := rv.int'
  refine wpAny_AugAssign_Name (loadVar S.ok hv (h env A s F (S.pre ro) _ _ fun v2 F1 h1 tk1 x1 r1 => ?_) hcd)
  obtain ⟨u, rfl⟩ := r1.int'
  refine P.isub_int ?_
  exact storeVar (s := { s with heap := h1, toks := tk1 + 1 }) (S.ext x1) U hk (rep_int : Rep F1 _ _) (fun ds e => by cases e) fun h' tk' S' _ => hq F1 h' tk' S'
theorem EX.augAdd {x : Str} {px pos : Pos} {e : Expr} {a b : Int} {r' : List (Str × Sl)} (k : LK r x (.val (.int a))) (h : EV C n sc r e (.int b)) (U : UPD r x (.val (.int (a + b))) r') (hk : sc.names.lookup x = some .local ∨ sc.names.lookup x = some .cell)
    (hcd : (x == ("__classdict__" : Str)) = false := by decide) : EX C n sc r (.AugAssign (.Name x px) .Add e pos) (.next r') := by
  intro env A s F G F0 S ro Q E hq
  obtain ⟨v, hv, rv⟩ := S.vals x _ k
  obtain ⟨t, rfl⟩ := rv.int'
  refine wpAny_AugAssign_Name (loadVar S.ok hv (h env A s F (S.pre ro) _ _ fun v2 F1 h1 tk1 x1 r1 => ?_) hcd)
  obtain ⟨u, rfl⟩ := r1.int'
  refine P.iadd_int ?_
  exact storeVar (s := { s with heap := h1, toks := tk1 + 1 }) (S.ext x1) U hk (rep_int : Rep F1 _ _) (fun ds e => by cases e) fun h' tk' S' _ => hq F1 h' tk' S'

/-- a, b = x.pop() on a list of its own -/
theorem EX.popTup {x : Str} {pn ap cp tpos pos : Pos} {k0 : Nat} {xs : List (Str × Pos)} {elts : List Expr} {init items : List V} {r1 r' : List (Str × Sl)} (he : elts = xs.map fun p => Expr.Name p.1 p.2) (k : LK r x (.own (init ++ [.tup items])))
    (U1 : UPD r x (.own init) r1) (hl : xs.length = items.length) (hk : ∀ x ∈ xs, sc.names.lookup x.1 = some .local ∨ sc.names.lookup x.1 = some .cell) (U : UPDs ((xs.map (·.1)).zip (items.map .val)) r1 r')
    (hline : (ap.endLine == cp.line) = true)
    (hs : ∀ env : Env, swapsWithSole [.Tuple elts k0 tpos] (.Call (.Attribute (.Name x pn) "pop" ap) [] [] cp) pos.line env = pure false := by intro _; rfl)
    (hw : ∀ env : Env, swappedStores [.Tuple elts k0 tpos] (.Call (.Attribute (.Name x pn) "pop" ap) [] [] cp) env = pure none := by intro _; rfl)
    (hbase : ∀ env, attributeBase (.Name x pn) "pop" env (eval (.Name x pn) env) = eval (.Name x pn) env := by intro _; rfl)
    (hd : (x == ("__debug__" : Str)) = false := by decide) (hcd : (x == ("__classdict__" : Str)) = false := by decide) :
    EX C n sc r (.Assign [.Tuple elts k0 tpos] (.Call (.Attribute (.Name x pn) "pop" ap) [] [] cp) pos) (.next r') := by
  subst he
  intro env A s F G F0 S ro Q E hq
  refine Assign_Tuple ?_ (hs env) (hw env)
  refine wpAny_Call_method0_late (hbase env) hline ?_
  obtain ⟨a, ⟨w1, w2, w3, vs, kk, w4, w5, w6⟩, turn⟩ := S.ownAt k
  refine wpAny_Name (loadVar S.ok w1 ?_ hcd) hd
  refine ⟨"list", "list.pop", PySem.F.plainAttrs_list, PySem.F.slot_list_pop, PySem.F.type_list_pop, ⟨_, w4, rfl⟩, fun b e => by cases e; exact ⟨_, w4, rfl⟩, ?_⟩
  refine callWith_builtin rfl (PyProof.Rows.evalArgs_none ?_)
  have hlen := w5.len
  rw [List.length_append, List.length_singleton] at hlen
  have hlast : ∃ v, vs[init.length]? = some v ∧ Rep F v (.tup items) := w5.get' (by simp)
  obtain ⟨v, hv, rv⟩ := hlast
  have hvs : vs = vs.take init.length ++ [v] := by
    have h1 : vs.take (init.length + 1) = vs := List.take_of_length_le (by omega)
    rw [List.take_add_one, hv] at h1
    exact h1.symm
  have hinit : Reps F (vs.take init.length) init := by
    have := w5.take init.length
    rwa [List.take_left'] at this
    rfl
  refine call_meets PySem.F.slot_list_pop ⟨_, w4, rfl⟩ PySem.F.entry_list_pop (PySem.F.args_list_pop_1 _) (PySem.MeetsSeq.list_pop_last a _ kk v (by rw [List.size_toArray, hlen]; simpa using hv) (by rw [List.size_toArray, w5.len, sizeLine_eq]; exact Nat.le_trans w6 (by decide))) ⟨w4, ?_⟩
  have hg : ∃ k', (s.heap.update a (Obj.mapSeq fun xs => xs.eraseIdxIfInBounds (vs.toArray.size - 1))).get? a = some (lstO (vs.take init.length) k') := by
    obtain ⟨k', e⟩ := mapSeq_lst (f := fun xs : Array Value => xs.eraseIdxIfInBounds (vs.toArray.size - 1)) (vs := vs) (ws := vs.take init.length) (m := kk) (by
      have : vs.toArray.size - 1 = init.length := by rw [List.size_toArray, hlen]; rfl
      rw [this]
      have hlt : init.length < vs.length := by omega
      apply Array.ext'
      rw [Array.eraseIdxIfInBounds, dif_pos (by simpa using hlt)]
      rw [Array.toList_eraseIdx]
      show vs.eraseIdx init.length = _
      conv => lhs; rw [hvs]
      have hl2 : (vs.take init.length).length = init.length := by rw [List.length_take]; omega
      rw [List.eraseIdx_append_of_length_le (by rw [hl2]; exact Nat.le_refl _), hl2, Nat.sub_self]
      simp)
    exact ⟨k', (Heap.get?_update_self _ w4 rfl).trans (congrArg some e)⟩
  obtain ⟨k', hg⟩ := hg
  have S1 := turn _ r1 init (vs.take init.length) k' (Heap.SameBut.update ..) hg hinit (by rw [List.length_append] at w6; omega) U1
  generalize s.heap.update a (Obj.mapSeq fun xs => xs.eraseIdxIfInBounds (vs.toArray.size - 1)) = h1 at S1 hg ⊢
  obtain ⟨t, ws, rfl, ht, hr, hc⟩ := rv.tup'
  have eqs : ∀ ys : List (Str × Pos), assignEach (ys.map fun p => Expr.Name p.1 p.2) env = ys.map fun p => (false, PySem.assign (.Name p.1 p.2) env) := by
    intro ys
    induction ys with
    | nil => rfl
    | cons y ys ih => show (false, PySem.assign (.Name y.1 y.2) env) :: assignEach (ys.map fun p => Expr.Name p.1 p.2) env = _; rw [ih]; rfl
  refine wpAny_assign_Tuple ro.hh (items := ws.toArray) ⟨_, S1.lt.le _ _ ht, rfl, 0, rfl⟩ ?_ ?_ fun h2 hx2 => ?_
  · rw [eqs, List.length_map, List.size_toArray, hr.len, hl]
  · rw [eqs]
    clear hk U hw hs hl
    induction xs with
    | nil => rfl
    | cons y ys ih => rw [List.map_cons, List.findIdx?_cons]; simp [ih]
  · rw [eqs, List.map_map]
    have e2 : Ext F h1 F h2 := Ext.of_keep S1.lt.le fun b o e => hx2 b o (Nat.ne_of_lt (Heap.lt_size e)) e
    obtain ⟨ps, q1, q2, q3, q4⟩ := newsOfReps (env := env) (G := G) (h := h2) hr
    have q1' : ws.toArray.toList = ps.map (·.1) := by rw [q1]
    rw [q1']
    refine storeSeq (f := fun (p : Str × Pos) v => PySem.assign (.Name p.1 p.2) env v) (nm := (·.1)) (fun x v s Q hw => wpAny_assign_Name hw) xs ps r1 r' _ F G F0 _ (by
        have e1 : ps.length = ws.length := by rw [← q1, List.length_map]
        rw [e1, hr.len, hl]) (S1.ext e2) hk (by rw [q2]; exact U) q3 (fun p hp ho => absurd ho (q4 p hp)) (fun h' tk' S' => hq F h' tk' S')

/-- the items of a list of its own are read -/
theorem EV.ownItem {x : Str} {pn pos : Pos} {i : Expr} {ds : List V} {j : Int} {d : V} (k : LK r x (.own ds)) (h2 : EV C n sc r i (.int j)) (hi : itemAt ds j = some d)
    (hs : ∀ o iv, subscripted i false o iv = operate [o, iv] (getItem o iv) := by intro _ _; rfl)
    (hd : (x == ("__debug__" : Str)) = false := by decide) (hcd : (x == ("__classdict__" : Str)) = false := by decide) : EV C n sc r (.Subscript (.Name x pn) i pos) d := by
  intro env A s F p Q E hq
  obtain ⟨v, hv, a, vs, m, rfl, hF, hl0, hr, hc⟩ := p.holds.var x _ k
  refine Subscript_ (wpAny_Name (loadVar p.ok hv ?_ hcd) hd)
  refine h2 env A _ F p _ _ fun v2 F2 h2' tk2 x2 r2 => ?_
  obtain ⟨t, rfl⟩ := r2.int'
  have hl := x2.keep _ _ hl0
  unfold subscriptTail
  refine wpAny_bind ?_
  have hT : ({ s with heap := h2', toks := tk2 } : Shared).TypeIs (.ref a) "list" := ⟨_, hl, rfl⟩
  rw [getitemInPython_of_ne hT.not_modules]
  refine wpAny_bind (wpAny_specialOf hT slot_list_getitem.lookup ?_)
  have fin : wpAny C.M A (subscripted i false (.ref a) (.int j t)) (fun r s₃ => wpAny C.M A (letTemporaryGo (.Name x pn) (.ref a) r >>= fun _ => pure r) Q E s₃) E { s with heap := h2', toks := tk2 } := by
    rw [hs]
    refine wpAny_operating (item_list (F := F2) hl (hr.mono x2.up) hc hi fun v rv => wpAny_bind (wpAny_letTemporaryGo (wpAny_pure ?_)))
    exact hq v F2 h2' tk2 x2 rv
  first
    | exact wpAny_pure (wpAny_bind fin)
    | exact wpAny_bind (wpAny_pure (wpAny_bind fin))
    | exact wpAny_bind fin

/-- a list of its own is looked at, and a plain datum comes of it -/
noncomputable def Scal : V → Prop
  | .none => True
  | .bool _ => True
  | .int _ => True
  | .str _ => True
  | .raw _ => True
  | .tup _ => False
  | .lst _ => False
theorem Rep.scal {F F' : PM} {v : Value} : ∀ {d : V}, Scal d → Rep F v d → Rep F' v d
  | .none, _, h => h
  | .bool _, _, h => h
  | .int _, _, h => h
  | .str _, _, h => h
  | .raw _, _, h => h

theorem Pre.borrow {env : Env} {A : Around} {s : Shared} {F : PM} {x : Str} {ds : List V} (p : Pre C env sc n A r F s) (k : LK r x (.own ds)) :
    ∃ F', Sub F F' ∧ Pre C env sc n A [(x, .val (.lst ds))] F' s := by
  obtain ⟨v, hv, a, vs, m, rfl, hF, hl0, hr, hc⟩ := p.holds.var x _ k
  have up : Sub F (PM.add F a (lstO vs m)) := fun b o e => by
    unfold PM.add
    by_cases c : b = a
    · subst c; rw [hF] at e; cases e
    · rw [if_neg c]; exact e
  refine ⟨PM.add F a (lstO vs m), up, p.ok, p.room, p.base.trans up, fun b o e => ?_, ⟨fun y t q => ?_⟩⟩
  · unfold PM.add at e
    by_cases c : b = a
    · subst c; rw [if_pos rfl] at e; cases e; exact hl0
    · rw [if_neg c] at e; exact p.le b o e
  · cases q with
    | here => exact ⟨_, hv, rep_lst hr hF hc⟩
    | next _ q => cases q
theorem EV.borrow {x : Str} {ds : List V} {e : Expr} {d : V} (k : LK r x (.own ds)) (h : EV C n sc [(x, .val (.lst ds))] e d) (hd : Scal d) : EV C n sc r e d := by
  intro env A s F p Q E hq
  obtain ⟨F', up, p'⟩ := p.borrow k
  exact h env A s F' p' _ _ fun v F1 h1 tk1 x1 r1 => hq v F h1 tk1 (Ext.of_keep p.le x1.keep) (r1.scal hd)
theorem TS.borrow {x : Str} {ds : List V} {e : Expr} {b : Bool} (k : LK r x (.own ds)) (h : TS C n sc [(x, .val (.lst ds))] e b) : TS C n sc r e b := by
  intro env A s F p Q E hq
  obtain ⟨F', up, p'⟩ := p.borrow k
  exact h env A s F' p' _ _ fun F1 h1 tk1 x1 => hq F h1 tk1 (Ext.of_keep p.le x1.keep)

/-- isinstance(a tuple, str) -/
theorem EV.isStr {e : Expr} {np sp pos : Pos} {l : List V} (hk : sc.names.lookup (Str.ofString "isinstance") = some .globalImplicit) (hk2 : sc.names.lookup (Str.ofString "str") = some .globalImplicit) (hg : C.mg "isinstance" = none) (hg2 : C.mg "str" = none)
    (hv : bootBuiltins (Str.ofString "isinstance") = some (.builtin "isinstance")) (hv2 : bootBuiltins (Str.ofString "str") = some (.type "str")) (h : EV C n sc r e (.tup l))
    (he : ∀ env, starEach [e, .Name "str" sp] env = [(false, eval e env), (false, eval (.Name "str" sp) env)] := by intro _; rfl) :
    EV C n sc r (.Call (.Name "isinstance" np) [e, .Name "str" sp] [] pos) (.bool false) := by
  intro env A s F p Q E hq
  refine wpAny_Call_NameR (loadB p hk hg hv ?_ (by decide) (by decide))
  refine callWith_builtin1 ?_ (by rw [he env]; rfl) rfl
  rw [he env]
  refine spliced_cons (h env A s F p _ _ fun v F1 h1 tk1 x1 r1 => ?_)
  refine spliced_cons (loadB (p.next x1) hk2 hg2 hv2 (spliced_nil ?_) (by decide) (by decide))
  obtain ⟨a, vs, rfl, ha, hr, hc⟩ := r1.tup'
  exact IsiPair.tuple_str (x1.le _ _ ha) rfl ((hq.up (tk' := tk1) x1).bool x1.le)

noncomputable def maxI : List Int → Int
  | [] => 0
  | x :: xs => xs.foldl (fun m y => if y > m then y else m) x

theorem maxI_best (l : List Int) : ∀ k, k < l.length → l.getD (argBest (fun i j => decide (l.getD i 0 > l.getD j 0)) k) 0 = maxI (l.take (k + 1))
  | 0, h => by
    cases l with
    | nil => cases h
    | cons x xs => rfl
  | k + 1, h => by
    have ih := maxI_best l k (by omega)
    have hl : l[k + 1]? = some l[k + 1] := List.getElem?_eq_getElem h
    have e1 : l.take (k + 1 + 1) = l.take (k + 1) ++ [l[k + 1]] := by rw [List.take_add_one, hl]; rfl
    have e2 : maxI (l.take (k + 1 + 1)) = if l[k + 1] > maxI (l.take (k + 1)) then l[k + 1] else maxI (l.take (k + 1)) := by
      rw [e1]
      cases hq : l.take (k + 1) with
      | nil => cases l with
        | nil => cases h
        | cons x xs => cases hq
      | cons x xs =>
        show List.foldl (fun m y => if y > m then y else m) x (xs ++ [l[k + 1]]) = _
        rw [List.foldl_append]
        rfl
    rw [e2]
    have e3 : l.getD (k + 1) 0 = l[k + 1] := by rw [List.getD_eq_getElem?_getD, hl]; rfl
    unfold argBest
    by_cases c : l.getD (k + 1) 0 > l.getD (argBest (fun i j => decide (l.getD i 0 > l.getD j 0)) k) 0
    · rw [if_pos (by simpa using c), e3]
      rw [e3, ih] at c
      rw [if_pos c]
    · rw [if_neg (by simpa using c), ih]
      rw [e3, ih] at c
      rw [if_neg c]

theorem reps_int {F : PM} {vs : List Value} {l : List Int} (h : Reps F vs (l.map .int)) {i : Nat} {v : Value} (e : vs[i]? = some v) : ∃ t, v = .int (l.getD i 0) t := by
  obtain ⟨d, h1, h2⟩ := h.get e
  rw [List.getElem?_map] at h1
  cases q : l[i]? with
  | none => rw [q] at h1; cases h1
  | some x =>
    rw [q] at h1; cases h1
    obtain ⟨t, rfl⟩ := h2.int'
    exact ⟨t, by rw [List.getD_eq_getElem?_getD, q]; rfl⟩
theorem reps_bool {F : PM} {vs : List Value} {l : List Bool} (h : Reps F vs (l.map .bool)) {i : Nat} {v : Value} (e : vs[i]? = some v) : v = .bool (l.getD i false) := by
  obtain ⟨d, h1, h2⟩ := h.get e
  rw [List.getElem?_map] at h1
  cases q : l[i]? with
  | none => rw [q] at h1; cases h1
  | some x =>
    rw [q] at h1; cases h1
    obtain rfl := h2.bool'
    rw [List.getD_eq_getElem?_getD, q]; rfl

/-- the walk over a list that is frozen -/
theorem iterList {A : Around} {s : Shared} {F : PM} {a : Addr} {vs : List Value} {m : Nat} {Q E : Value → Shared → Prop} (hh : A.handled = none) (le : Sub F s.heap.get?) (ha : F a = some (lstO vs m))
    (h : ∀ h', Sub s.heap.get? h'.get? → h'.IsListIter s.heap.objs.size a 0 ∧ h'.IsList a vs.toArray → (∀ b ∈ [s.heap.objs.size, a], b < h'.objs.size) → (∀ h'' : Heap, (∀ b o, b ∉ [s.heap.objs.size] → h'.get? b = some o → h''.get? b = some o) → Sub s.heap.get? h''.get?) →
      Walks C.prog C.w A s.heap.objs.size [s.heap.objs.size, a] [s.heap.objs.size] vs.length (fun i v => vs.toArray[i]? = some v) (fun i h => h.IsListIter s.heap.objs.size a i ∧ h.IsList a vs.toArray) → Q (.ref s.heap.objs.size) { s with heap := h' }) :
    wpAny C.M A (pyIter (.ref a)) Q E s := by
  have hL := isList le ha
  have hlt : a < s.heap.objs.size := Heap.lt_size (le _ _ ha)
  have W := Walks.list (prog := C.prog) (w := C.w) (A := A) hh s.heap.objs.size a (Nat.ne_of_lt hlt) vs.toArray
  have hsz : vs.toArray.size = vs.length := List.size_toArray ..
  rw [hsz] at W
  refine wpAny_pyIter_list hL (h _ (push_keep _ _) ⟨⟨_, Heap.get?_push_size _ rfl, rfl, rfl⟩, hL.push _⟩ (fun b hb => ?_) (fun h'' hk b o e => ?_) W)
  · rw [Heap.size_push]
    rcases List.mem_cons.mp hb with rfl | hb
    · exact Nat.lt_succ_self _
    · rcases List.mem_cons.mp hb with rfl | hb
      · exact Nat.lt_succ_of_lt hlt
      · cases hb
  · refine hk b o (fun hm => ?_) (push_keep _ _ _ _ e)
    rcases List.mem_cons.mp hm with rfl | hm
    · rw [fresh_size] at e; cases e
    · cases hm

theorem BI.maxL {l : List Int} (hne : l ≠ []) : BI C (.builtin "max") [.lst (l.map .int)] (.int (maxI l)) := by
  intro A s F ro _ le vs rs Q E hq
  obtain ⟨v, rfl, rv⟩ := rs.one
  obtain ⟨a, ws, m, rfl, ha, hr, hc⟩ := rv.lst'
  have hlen : ws.length = l.length := by rw [hr.len, List.length_map]
  have hpos : 0 < l.length := List.length_pos_iff.mpr hne
  refine call_max_walk (iterList (A := A.in1) ro.hh le ha fun h' hk st hfp hback W => ?_)
  refine ⟨_, _, _, _, _, _, _, rfl, W, st, hfp, by rw [hlen]; exact hpos, CmpOf.ints_gt (fun i => l.getD i 0) (fun i v e => reps_int hr (by simpa using e)), fun v h2 tk hP hk2 => ?_⟩
  obtain ⟨t, rfl⟩ := reps_int hr (i := _) ((List.getElem?_toArray ..).symm.trans hP)
  refine hq _ F h2 tk (Ext.of_keep le (hback h2 hk2)) ?_
  rw [hlen, maxI_best l (l.length - 1) (by omega), show l.length - 1 + 1 = l.length by omega, List.take_length]
  exact rep_int

theorem any_range (l : List Bool) : (List.range l.length).any (fun i => l.getD i false) = l.any id := by
  rw [Bool.eq_iff_iff]
  simp only [List.any_eq_true, List.mem_range, id]
  constructor
  · rintro ⟨i, hi, h⟩
    rw [List.getD_eq_getElem?_getD, List.getElem?_eq_getElem hi] at h
    exact ⟨_, List.getElem_mem hi, h⟩
  · rintro ⟨b, hb, h⟩
    obtain ⟨i, hi, rfl⟩ := List.getElem_of_mem hb
    exact ⟨i, hi, by rw [List.getD_eq_getElem?_getD, List.getElem?_eq_getElem hi]; exact h⟩

theorem BI.any {l : List Bool} : BI C (.builtin "any") [.lst (l.map .bool)] (.bool (l.any id)) := by
  intro A s F ro _ le vs rs Q E hq
  obtain ⟨v, rfl, rv⟩ := rs.one
  obtain ⟨a, ws, m, rfl, ha, hr, hc⟩ := rv.lst'
  have hlen : ws.length = l.length := by rw [hr.len, List.length_map]
  refine call_any_walk (iterList (A := A.in1) ro.hh le ha fun h' hk st hfp hback W => ?_)
  refine ⟨_, _, _, _, _, _, fun i => l.getD i false, rfl, W, st, (fun i v s Q E e hQ => ?_), fun h2 tk hk2 => ?_⟩
  · obtain rfl := reps_bool hr (by simpa using e)
    exact wpAny_truthy_bool hQ
  · rw [hlen, any_range]
    exact hq _ F h2 tk (Ext.of_keep le (hback h2 hk2)) rep_bool

theorem preSum_take (l : List Int) : ∀ k, k ≤ l.length → preSum (fun i => l.getD i 0) k = (l.take k).sum
  | 0, _ => by simp [preSum]
  | k + 1, h => by
    have hl : l[k]? = some l[k] := List.getElem?_eq_getElem h
    rw [preSum, preSum_take l k (by omega), List.take_add_one, hl, List.sum_append, List.getD_eq_getElem?_getD, hl]
    simp

theorem BI.sum {l : List Int} : BI C (.builtin "sum") [.lst (l.map .int)] (.int l.sum) := by
  intro A s F ro _ le vs rs Q E hq
  obtain ⟨v, rfl, rv⟩ := rs.one
  obtain ⟨a, ws, m, rfl, ha, hr, hc⟩ := rv.lst'
  have hlen : ws.length = l.length := by rw [hr.len, List.length_map]
  refine call_sum_walkG (iterList (A := A.in1) ro.hh le ha fun h' hk st hfp hback W => ?_)
  refine ⟨_, _, _, _, _, _, fun i => l.getD i 0, rfl, W, st, hfp, (fun i v e => reps_int hr (by simpa using e)), fun h2 tk t hk2 => ?_⟩
  rw [hlen, preSum_take l l.length (Nat.le_refl _), List.take_length]
  exact hq _ F h2 tk (Ext.of_keep le (hback h2 hk2)) rep_int

theorem BI.intI {a : Int} : BI C (.type "int") [.int a] (.int a) := by
  intro A s F ro _ le vs rs Q E hq
  obtain ⟨v, rfl, rv⟩ := rs.one
  obtain ⟨t, rfl⟩ := rv.int'
  exact call_int_int (hq.int (tk := s.toks) le)

theorem IT.range1 {e : Expr} {np pos : Pos} {k : Int} (h : EV C n sc r e (.int k)) (h0 : 0 ≤ k) (hc : k ≤ cap) (hk : sc.names.lookup (Str.ofString "range") = some .globalImplicit) (hg : C.mg "range" = none)
    (hv : bootBuiltins (Str.ofString "range") = some (.type "range")) (he : ∀ env, starEach [e] env = [(false, eval e env)] := by intro _; rfl) :
    IT C n sc r (.Call (.Name "range" np) [e] [] pos) (rangeV 0 k.toNat) := by
  intro env A s F p Q E hq
  refine wpAny_Call_NameR (loadB p hk hg hv ?_ (by decide) (by decide))
  refine callWith_T ?_ (by rw [he env]; rfl) rfl
  rw [he env]
  refine spliced_cons (h env A s F p _ _ fun v F1 h1 tk1 x1 r1 => spliced_nil ?_)
  obtain ⟨t, rfl⟩ := r1.int'
  unfold cap at hc
  refine call_range_1 ?_
  refine IT.ofRange (s := s) (k := k.toNat) p.room.hh x1 ?_ (small_one (by decide) (by decide) (by omega) (by omega)) hq
  rw [rangeSize_one]
  by_cases c : (0 : Int) < k
  · rw [if_pos c]; omega
  · rw [if_neg c]; omega

theorem IT.range2 {e1 e2 : Expr} {np pos : Pos} {a b : Int} (h1 : EV C n sc r e1 (.int a)) (h2 : EV C n sc r e2 (.int b)) (ha0 : -1000 ≤ a) (ha : a ≤ 1000) (hb0 : -1000 ≤ b) (hc : b ≤ cap) (hk : sc.names.lookup (Str.ofString "range") = some .globalImplicit) (hg : C.mg "range" = none)
    (hv : bootBuiltins (Str.ofString "range") = some (.type "range")) (he : ∀ env, starEach [e1, e2] env = [(false, eval e1 env), (false, eval e2 env)] := by intro _; rfl)
    (he2 : ∀ env, starEach [e2] env = [(false, eval e2 env)] := by intro _; rfl) :
    IT C n sc r (.Call (.Name "range" np) [e1, e2] [] pos) (rangeV a (b - a).toNat) := by
  intro env A s F p Q E hq
  refine wpAny_Call_NameR (loadB p hk hg hv ?_ (by decide) (by decide))
  refine callWith_T ?_ (by rw [he env, he2 env]) (by rw [he2 env]; rfl)
  rw [he env]
  refine spliced_cons (h1 env A s F p _ _ fun v F1 h1' tk1 x1 r1 => spliced_cons (h2 env A _ F1 (p.next x1) _ _ fun v2 F2 h2' tk2 x2 r2 => spliced_nil ?_))
  obtain ⟨t, rfl⟩ := r1.int'
  obtain ⟨u, rfl⟩ := r2.int'
  unfold cap at hc
  refine call_range_2 ?_
  refine IT.ofRange (s := s) (k := (b - a).toNat) p.room.hh (x1.trans x2) ?_ (small_one (by omega) (by omega) (by omega) (by omega)) hq
  rw [rangeSize_one]
  by_cases c : a < b
  · rw [if_pos c]; omega
  · rw [if_neg c]; omega

theorem IT.rev {e : Expr} {np pos : Pos} {ds : List V} (h : EV C n sc r e (.lst ds)) (hk : sc.names.lookup (Str.ofString "reversed") = some .globalImplicit) (hg : C.mg "reversed" = none)
    (hv : bootBuiltins (Str.ofString "reversed") = some (.type "reversed")) (he : ∀ env, starEach [e] env = [(false, eval e env)] := by intro _; rfl) :
    IT C n sc r (.Call (.Name "reversed" np) [e] [] pos) ds.reverse := by
  intro env A s F p Q E hq
  refine wpAny_Call_NameR (loadB p hk hg hv ?_ (by decide) (by decide))
  refine callWith_T ?_ (by rw [he env]; rfl) rfl
  rw [he env]
  refine spliced_cons (h env A s F p _ _ fun v F1 h1 tk1 x1 r1 => spliced_nil ?_)
  obtain ⟨a, vs, m, rfl, ha, hr, hc⟩ := r1.lst'
  have hL : ({ s with heap := h1, toks := tk1 } : Shared).heap.IsList a vs.toArray := ⟨_, x1.le _ _ ha, rfl, m, rfl⟩
  have hlt : a < h1.objs.size := Heap.lt_size (x1.le _ _ ha)
  have hsz : vs.toArray.size = ds.length := by rw [List.size_toArray]; exact hr.len
  refine call_reversed_list hL ?_
  have hit : (h1.push (revObj a ((vs.toArray.size : Int) - 1))).IsRevIter h1.objs.size a ((vs.toArray.size : Int) - 1) := ⟨_, Heap.get?_push_size _ rfl, rfl, rfl⟩
  refine wpAny_pyIter_revIter (l := a) (i := (vs.toArray.size : Int) - 1) hit ?_
  have e1 : Ext F1 h1 F1 (h1.push (revObj a ((vs.toArray.size : Int) - 1))) := Ext.of_keep x1.le (push_keep _ _)
  have W := Walks.listRev (prog := C.prog) (w := C.w) (A := A) p.room.hh h1.objs.size a (Nat.ne_of_lt hlt) vs.toArray
  have hn : vs.toArray.size = ds.reverse.length := by rw [hsz, List.length_reverse]
  have W' : Walks C.prog C.w A h1.objs.size [h1.objs.size, a] [h1.objs.size] ds.reverse.length (fun i v => vs.toArray[vs.toArray.size - 1 - i]? = some v) (fun i h => i ≤ vs.toArray.size ∧ h.IsRevIter h1.objs.size a ((vs.toArray.size : Int) - 1 - (i : Int)) ∧ h.IsList a vs.toArray) := hn ▸ W
  refine hq h1.objs.size _ _ _ _ F1 _ tk1 (x1.trans e1) W' ⟨Nat.zero_le _, by simpa using hit, hL.push _⟩ (fun b hb => ?_) (fun b hb => ?_) (fun i h st b hb => ?_) (fun b hb => ?_) (fun i v hi hv => ?_)
  · rw [Heap.size_push]
    rcases List.mem_cons.mp hb with rfl | hb
    · exact Nat.lt_succ_self _
    · rcases List.mem_cons.mp hb with rfl | hb
      · exact Nat.lt_succ_of_lt hlt
      · cases hb
  · rcases List.mem_cons.mp hb with rfl | hb
    · refine ⟨none_of_le x1.le (fresh_size _), ?_⟩
      cases q : s.heap.get? h1.objs.size with
      | none => rfl
      | some o => have := x1.keep _ _ q; rw [fresh_size] at this; cases this
    · cases hb
  · rcases List.mem_cons.mp hb with rfl | hb
    · obtain ⟨o, ho, _⟩ := st.2.1
      rw [ho]; exact fun e => nomatch e
    · cases hb
  · rcases List.mem_cons.mp hb with rfl | hb
    · exact .inl (List.mem_cons_self ..)
    · rcases List.mem_cons.mp hb with rfl | hb
      · right; rw [ha]; exact fun e => nomatch e
      · cases hb
  · have hi' : i < ds.length := by rw [List.length_reverse] at hi; exact hi
    rw [hsz] at hv
    obtain ⟨d, h1', h2'⟩ := hr.get (by simpa using hv)
    refine ⟨d, ?_, h2'⟩
    rw [List.getElem?_reverse hi']; exact h1'
end
end Mine
end
section
open PySem PySem.W PyProof.Rows PySem.Calls PySem.SeqAt
namespace Mine

/-- the def of that name gives that datum -/
noncomputable def CN (C : Cx) (n : Nat) (x : Str) (ds : List V) (d : V) : Prop := ∃ f o fd, C.mg x = some (.ref f) ∧ C.b0.get? f = some o ∧ o.data = .func fd ∧ CL C n f ds d

noncomputable abbrev pI (p : List Int) : V := .lst (p.map .int)
noncomputable abbrev rV (x : Int × Int) : V := .tup [.int x.1, .int x.2]
noncomputable abbrev ivV (x : (Int × Int) × (Int × Int)) : V := .tup [rV x.1, rV x.2]

noncomputable def mulG (a b : Int) : Option Int := if a.natAbs < big ∧ b.natAbs < big then some (a * b) else none
noncomputable def divG (a b : Int) : Option Int := if b ≠ 0 ∧ b.natAbs < big then some (a.fdiv b) else none
noncomputable def modG (a b : Int) : Option Int := if b ≠ 0 then some (a.fmod b) else none
noncomputable def powG (a k : Int) : Option Int := if 0 ≤ k ∧ k ≤ 1000 ∧ a.natAbs < big then some (a ^ k.toNat) else none
noncomputable def itemI (p : List Int) (k : Int) : Option Int := (seqIndex? k p.length).bind fun j => p[j]?
noncomputable def absI (a : Int) : Int := if a < 0 then -a else a

noncomputable def mapG {α β : Type} (f : α → Option β) : List α → Option (List β)
  | [] => some []
  | x :: xs => (f x).bind fun y => (mapG f xs).bind fun ys => some (y :: ys)

section
variable {C : Cx} {n : Nat} {sc : Scope} {r : List (Str × Sl)}

theorem CN.intro {K : Frag} (X : K.In C.b0) {x name qual : Str} {params : Arguments} {body : List Stmt} {scope : Scope} {dV kV doc pm cdv ct oc : Value} {an od : Option Addr} {osl : Array (Option Value)} {f : Addr} {ds : List V} {d : V} {out : Out} (names : List Str) (rows : List (Str × Sl))
    (hv : nsIn K mainGlobals x = some (some (.ref f))) (ho : K.lookup f = some ⟨oc, od, .func (fnOf name qual params body scope dV kV doc pm an cdv ct), osl⟩) (hcd : codeIn K cdv qual = true)
    (hbind : ∀ vs : List Value, vs.length = names.length → bindArgs (fnOf name qual params body scope dV kV doc pm an cdv ct) ⟨vs, []⟩ = pure (names.zip vs))
    (hkind : ∀ x ∈ names, scope.names.lookup x = some .local ∨ scope.names.lookup x = some .cell) (hnd : names.Nodup) (hlen : ds.length = names.length)
    (hco : scope.isCoroutine = false) (hgen : scope.isGenerator = false) (hk : scope.kind = .function)
    (hrows : names.zip (ds.map .val) = rows) (hb : EXs C n scope rows body out) (hout : out = .ret d ∨ ((∃ r, out = .next r) ∧ d = .none)) : CN C (n + 1) x ds d :=
  ⟨f, _, _, mg_of X C.g hv, X _ _ ho, rfl, CL.intro (fd := fnOf name qual params body scope dV kV doc pm an cdv ct) ⟨⟨_, X _ _ ho, rfl⟩, codeRec_of X hcd, rfl, rfl, rfl, rfl, hco, hgen, hk⟩ hbind hkind hnd hlen (hrows ▸ hb) hout⟩

theorem EV.callN {x : Str} {np pos : Pos} {e : Expr} {es : List Expr} {ds : List V} {d : V} {m : Nat} (hk : sc.names.lookup x = some .globalImplicit) (ha : EVs C n sc r (e :: es) ds) (hc : CN C m x ds d) (hm : m ≤ n)
    (he : ∀ env, starEach (e :: es) env = (false, eval e env) :: starEach es env := by intro _; rfl) (hd : (x == ("__debug__" : Str)) = false := by decide) :
    EV C n sc r (.Call (.Name x np) (e :: es) [] pos) d := by
  obtain ⟨f, o, fd, h1, h2, h3, h4⟩ := hc
  exact EV.call hk h1 h2 h3 ha (h4.mono hm) he hd

theorem EV.conv {e : Expr} {d d' : V} (h : EV C n sc r e d) (hd : d = d') : EV C n sc r e d' := hd ▸ h
theorem TS.conv {e : Expr} {b b' : Bool} (h : TS C n sc r e b) (hb : b = b') : TS C n sc r e b' := hb ▸ h

theorem BIN.mulG {a b c : Int} (h : mulG a b = some c) : BIN C .Mult (.int a) (.int b) (.int c) := by
  unfold Mine.mulG at h
  split at h
  · rename_i q; cases h; exact BIN.mul q.1 q.2
  · cases h
theorem BIN.divG {a b c : Int} (h : divG a b = some c) : BIN C .FloorDiv (.int a) (.int b) (.int c) := by
  unfold Mine.divG at h
  split at h
  · rename_i q; cases h; exact BIN.fdiv q.1 q.2
  · cases h
theorem BIN.modG {a b c : Int} (h : modG a b = some c) : BIN C .Mod (.int a) (.int b) (.int c) := by
  unfold Mine.modG at h
  split at h
  · rename_i q; cases h; exact BIN.mod q
  · cases h
theorem BIN.powG {a b c : Int} (h : powG a b = some c) : BIN C .Pow (.int a) (.int b) (.int c) := by
  unfold Mine.powG at h
  split at h
  · rename_i q; cases h; exact BIN.pow q.1 q.2.1 q.2.2
  · cases h
theorem BIN.addP {a b : List Int} (h : a.length + b.length ≤ cap) : BIN C .Add (pI a) (pI b) (pI (a ++ b)) := by
  have := BIN.addl (C := C) (a := a.map .int) (b := b.map .int) (by simpa using h)
  rwa [← List.map_append] at this
theorem BI.absI {a : Int} : BI C (.builtin "abs") [.int a] (.int (Mine.absI a)) := BI.abs
theorem BI.lenM {α : Type} {e : α → V} {l : List α} : BI C (.builtin "len") [.lst (l.map e)] (.int l.length) := by
  have := BI.lenL (C := C) (l := l.map e)
  rwa [List.length_map] at this

theorem itemM {α : Type} {e : α → V} {l : List α} {k : Int} {a : α} (h : ((seqIndex? k l.length).bind fun j => l[j]?) = some a) : itemAt (l.map e) k = some (e a) := by
  unfold itemAt
  rw [List.length_map]
  cases q : seqIndex? k l.length with
  | none => rw [q] at h; cases h
  | some j =>
    rw [q] at h
    show (l.map e)[j]? = _
    rw [List.getElem?_map]
    have h' : l[j]? = some a := h
    rw [h']; rfl
theorem EV.itemP {b i : Expr} {pos : Pos} {l : List Int} {k a : Int} (h1 : EV C n sc r b (pI l)) (h2 : EV C n sc r i (.int k)) (hi : itemI l k = some a)
    (hs : ∀ o iv, subscripted i false o iv = operate [o, iv] (getItem o iv) := by intro _ _; rfl) : EV C n sc r (.Subscript b i pos) (.int a) := EV.itemL h1 h2 (itemM hi) hs

theorem EV.callBm {x : Str} {np pos : Pos} {e : Expr} {es : List Expr} {ds : List V} {d : V} {id : String} {K : Frag} (X : K.In C.b0) (hk : sc.names.lookup x = some .globalImplicit) (hg : nsIn K mainGlobals x = some none)
    (hv : bootBuiltins x = some (.builtin id)) (ha : EVs C n sc r (e :: es) ds) (hc : BI C (.builtin id) ds d)
    (he : ∀ env, starEach (e :: es) env = (false, eval e env) :: starEach es env := by intro _; rfl) (hp : ∀ env pos, (backTo pos (starEach es env)).any (·.1) = false := by intro _ _; rfl)
    (hnm : x ≠ "__name__" := by decide) (hd : (x == ("__debug__" : Str)) = false := by decide) :
    EV C n sc r (.Call (.Name x np) (e :: es) [] pos) d := EV.callB hk (mg_none_of X C.g hg) hv ha hc he hp hnm hd
theorem EV.callTm {x : Str} {np pos : Pos} {e : Expr} {es : List Expr} {ds : List V} {d : V} {T : String} {K : Frag} (X : K.In C.b0) (hk : sc.names.lookup x = some .globalImplicit) (hg : nsIn K mainGlobals x = some none)
    (hv : bootBuiltins x = some (.type T)) (ha : EVs C n sc r (e :: es) ds) (hc : BI C (.type T) ds d)
    (he : ∀ env, starEach (e :: es) env = (false, eval e env) :: starEach es env := by intro _; rfl) (hp : ∀ env pos, (backTo pos (starEach es env)).any (·.1) = false := by intro _ _; rfl)
    (hnm : x ≠ "__name__" := by decide) (hd : (x == ("__debug__" : Str)) = false := by decide) :
    EV C n sc r (.Call (.Name x np) (e :: es) [] pos) d := EV.callT hk (mg_none_of X C.g hg) hv ha hc he hp hnm hd

theorem mapG_len {α β : Type} {f : α → Option β} : ∀ {l : List α} {m : List β}, mapG f l = some m → m.length = l.length
  | [], _, h => by cases h; rfl
  | x :: xs, m, h => by
    unfold mapG at h
    obtain ⟨y, _, h⟩ := Option.bind_eq_some_iff.mp h
    obtain ⟨ys, hy, h⟩ := Option.bind_eq_some_iff.mp h
    cases h
    rw [List.length_cons, List.length_cons, mapG_len hy]
theorem mapG_get {α β : Type} {f : α → Option β} : ∀ {l : List α} {m : List β}, mapG f l = some m → ∀ {i : Nat} {a : α} {b : β}, l[i]? = some a → m[i]? = some b → f a = some b
  | [], _, h, i, a, b, e, _ => by cases h; cases e
  | x :: xs, m, h, i, a, b, e1, e2 => by
    unfold mapG at h
    obtain ⟨y, hx, h⟩ := Option.bind_eq_some_iff.mp h
    obtain ⟨ys, hy, h⟩ := Option.bind_eq_some_iff.mp h
    cases h
    cases i with
    | zero => cases e1; cases e2; exact hx
    | succ i => exact mapG_get hy (by simpa using e1) (by simpa using e2)

/-- [elt for x in iter] -/
theorem EV.compM {α β : Type} {ea : α → V} {eb : β → V} {f : α → Option β} {l : List α} {m : List β} {elt iter : Expr} {x : Str} {px : Pos} {scope : Scope} {pos : Pos} (rf : List (Str × Sl)) (hq : mapG f l = some m)
    (hit : IT C n sc r iter (l.map ea)) (hx : scope.names.lookup x = some .local) (hb : ∀ a b, f a = some b → EV C n (relab scope sc) ((x, .val (ea a)) :: rf) elt (eb b)) (hlen : l.length ≤ cap)
    (hrf : ∀ p ∈ rf, p.1 ≠ x ∧ LK r p.1 p.2 ∧ (∃ d, p.2 = .val d) ∧ scope.names.lookup p.1 = some .free ∧ sc.names.lookup p.1 = some .cell)
    (hall : ∀ y, (y, NameKind.free) ∈ scope.names → ∃ t, (y, t) ∈ rf)
    (hcell : ∀ y ∈ scope.names, y.2 ≠ .cell := by decide) (hkind : scope.kind = .function := by rfl)
    (hnames : ∀ y ∈ scope.names, y.2 = .local → scope.names.lookup y.1 = some .local := by decide)
    (hs : ∀ env y, foldedSetIterable iter env y = pure y := by intro _ _; rfl) :
    EV C n sc r (.ListComp elt [⟨.Name x px, iter, [], 0⟩] scope pos) (.lst (m.map eb)) := by
  have hl := mapG_len hq
  have key := EV.comp (C := C) (n := n) (sc := sc) (r := r) (elt := elt) (iter := iter) (x := x) (px := px) (ifs := []) (scope := scope) (pos := pos) ((l.zip m).map fun p => (ea p.1, some (eb p.2))) rf
    (by
      have : ((l.zip m).map fun p => (ea p.1, some (eb p.2))).map (·.1) = l.map ea := by
        rw [List.map_map]
        have : ((fun q : V × Option V => q.1) ∘ fun p : α × β => (ea p.1, some (eb p.2))) = ea ∘ Prod.fst := rfl
        rw [this, ← List.map_map, List.map_fst_zip (by omega)]
      rw [this]; exact hit) hcell hkind hnames hx hrf hall
    (fun st hst => by
      obtain ⟨p, hp, rfl⟩ := List.mem_map.mp hst
      obtain ⟨i, hi⟩ := List.getElem?_of_mem hp
      rw [List.getElem?_zip_eq_some] at hi
      refine ⟨.inl ⟨rfl, rfl⟩, fun o ho => ?_⟩
      cases ho
      exact hb _ _ (mapG_get hq hi.1 hi.2)) (by rw [List.length_map, List.length_zip]; omega) hs
  have : ((l.zip m).map fun p => (ea p.1, some (eb p.2))).filterMap (·.2) = m.map eb := by
    rw [List.filterMap_map]
    have : ((fun q : V × Option V => q.2) ∘ fun p : α × β => (ea p.1, some (eb p.2))) = fun p => some ((eb ∘ Prod.snd) p) := rfl
    rw [this, List.filterMap_eq_map', ← List.map_map, List.map_snd_zip (by omega)]
  rwa [this] at key

/-- [elt for x in iter if c] -/
theorem EV.compF {α β : Type} {ea : α → V} {eb : β → V} (t : α → Bool) (f : α → β) {l : List α} {elt iter c : Expr} {x : Str} {px : Pos} {scope : Scope} {pos : Pos} (rf : List (Str × Sl))
    (hit : IT C n sc r iter (l.map ea)) (hx : scope.names.lookup x = some .local) (hc : ∀ a ∈ l, TS C n (relab scope sc) ((x, .val (ea a)) :: rf) c (t a)) (hb : ∀ a ∈ l, t a = true → EV C n (relab scope sc) ((x, .val (ea a)) :: rf) elt (eb (f a))) (hlen : l.length ≤ cap)
    (hrf : ∀ p ∈ rf, p.1 ≠ x ∧ LK r p.1 p.2 ∧ (∃ d, p.2 = .val d) ∧ scope.names.lookup p.1 = some .free ∧ sc.names.lookup p.1 = some .cell)
    (hall : ∀ y, (y, NameKind.free) ∈ scope.names → ∃ t, (y, t) ∈ rf)
    (hcell : ∀ y ∈ scope.names, y.2 ≠ .cell := by decide) (hkind : scope.kind = .function := by rfl)
    (hnames : ∀ y ∈ scope.names, y.2 = .local → scope.names.lookup y.1 = some .local := by decide)
    (hs : ∀ env y, foldedSetIterable iter env y = pure y := by intro _ _; rfl) :
    EV C n sc r (.ListComp elt [⟨.Name x px, iter, [c], 0⟩] scope pos) (.lst (((l.filter t).map f).map eb)) := by
  have key := EV.comp (C := C) (n := n) (sc := sc) (r := r) (elt := elt) (iter := iter) (x := x) (px := px) (ifs := [c]) (scope := scope) (pos := pos) (l.map fun a => (ea a, if t a then some (eb (f a)) else none)) rf
    (by rw [List.map_map]; exact hit) hcell hkind hnames hx hrf hall
    (fun st hst => by
      obtain ⟨a, ha, rfl⟩ := List.mem_map.mp hst
      refine ⟨.inr ⟨c, rfl, (hc a ha).conv ?_⟩, fun o ho => ?_⟩
      · cases t a <;> rfl
      · cases q : t a with
        | true => simp only [q, if_true] at ho; cases ho; exact hb a ha q
        | false => simp [q] at ho) (by rw [List.length_map]; exact hlen) hs
  have : (l.map fun a => (ea a, if t a then some (eb (f a)) else none)).filterMap (·.2) = ((l.filter t).map f).map eb := by
    clear key hb hc hit hlen
    induction l with
    | nil => rfl
    | cons a l ih =>
      rw [List.map_cons]
      cases q : t a with
      | true => rw [List.filter_cons_of_pos q, List.map_cons, List.map_cons, List.filterMap_cons_some (b := eb (f a)) (by simp [q]), ih]
      | false => rw [List.filter_cons_of_neg (by rw [q]; exact Bool.false_ne_true), List.filterMap_cons_none (by simp [q]), ih]
  rwa [this] at key

noncomputable def Loc (sc : Scope) (x : Str) : Prop := sc.names.lookup x = some .local ∨ sc.names.lookup x = some .cell

theorem EX.sw2 {x y : Str} {px py tpos vpos pos : Pos} {e1 e2 : Expr} {k k2 : Nat} {t1 t2 : Sl} {r1 r' : List (Str × Sl)} (h : EVS C n sc r [e1, e2] [t1, t2]) (U1 : UPD r y t2 r1) (U2 : UPD r1 x t1 r') (hx : Loc sc x) (hy : Loc sc y)
    (hs : ∀ env : Env, swapsWithSole [.Tuple [.Name x px, .Name y py] k tpos] (.Tuple [e1, e2] k2 vpos) pos.line env = pure false)
    (hw : ∀ env : Env, env.scope = sc → swappedStores [.Tuple [.Name x px, .Name y py] k tpos] (.Tuple [e1, e2] k2 vpos) env = pure (some [x, y])) :
    EX C n sc r (.Assign [.Tuple [.Name x px, .Name y py] k tpos] (.Tuple [e1, e2] k2 vpos) pos) (.next r') :=
  EX.tupSw (xs := [(x, px), (y, py)]) rfl h rfl (by decide : 2 ≤ 8) (fun z hz => by
    rcases List.mem_cons.mp hz with rfl | hz
    · exact hx
    · rcases List.mem_cons.mp hz with rfl | hz
      · exact hy
      · cases hz) (.cons U1 (.cons U2 .nil)) hs hw

theorem EX.sw3 {x y z : Str} {px py pz tpos vpos pos : Pos} {e1 e2 e3 : Expr} {k k2 : Nat} {t1 t2 t3 : Sl} {r1 r2 r' : List (Str × Sl)} (h : EVS C n sc r [e1, e2, e3] [t1, t2, t3]) (U1 : UPD r z t3 r1) (U2 : UPD r1 y t2 r2) (U3 : UPD r2 x t1 r') (hx : Loc sc x) (hy : Loc sc y) (hz : Loc sc z)
    (hs : ∀ env : Env, swapsWithSole [.Tuple [.Name x px, .Name y py, .Name z pz] k tpos] (.Tuple [e1, e2, e3] k2 vpos) pos.line env = pure false)
    (hw : ∀ env : Env, env.scope = sc → swappedStores [.Tuple [.Name x px, .Name y py, .Name z pz] k tpos] (.Tuple [e1, e2, e3] k2 vpos) env = pure (some [x, y, z])) :
    EX C n sc r (.Assign [.Tuple [.Name x px, .Name y py, .Name z pz] k tpos] (.Tuple [e1, e2, e3] k2 vpos) pos) (.next r') :=
  EX.tupSw (xs := [(x, px), (y, py), (z, pz)]) rfl h rfl (by decide : 3 ≤ 8) (fun w hz' => by
    rcases List.mem_cons.mp hz' with rfl | hz'
    · exact hx
    · rcases List.mem_cons.mp hz' with rfl | hz'
      · exact hy
      · rcases List.mem_cons.mp hz' with rfl | hz'
        · exact hz
        · cases hz') (.cons U1 (.cons U2 (.cons U3 .nil))) hs hw

theorem EX.in2 {x y : Str} {px py tpos vpos pos : Pos} {e1 e2 : Expr} {k k2 : Nat} {t1 t2 : Sl} {r1 r' : List (Str × Sl)} (h : EVS C n sc r [e1, e2] [t1, t2]) (U1 : UPD r x t1 r1) (U2 : UPD r1 y t2 r') (hx : Loc sc x) (hy : Loc sc y)
    (hs : ∀ env : Env, swapsWithSole [.Tuple [.Name x px, .Name y py] k tpos] (.Tuple [e1, e2] k2 vpos) pos.line env = pure false)
    (hw : ∀ env : Env, env.scope = sc → swappedStores [.Tuple [.Name x px, .Name y py] k tpos] (.Tuple [e1, e2] k2 vpos) env = pure none) :
    EX C n sc r (.Assign [.Tuple [.Name x px, .Name y py] k tpos] (.Tuple [e1, e2] k2 vpos) pos) (.next r') :=
  EX.tupIn (xs := [(x, px), (y, py)]) rfl h rfl (by decide : 2 ≤ 8) (fun z hz => by
    rcases List.mem_cons.mp hz with rfl | hz
    · exact hx
    · rcases List.mem_cons.mp hz with rfl | hz
      · exact hy
      · cases hz) (.cons U1 (.cons U2 .nil)) hs hw

theorem EX.in4 {x y z w : Str} {px py pz pw tpos vpos pos : Pos} {e1 e2 e3 e4 : Expr} {k k2 : Nat} {t1 t2 t3 t4 : Sl} {r1 r2 r3 r' : List (Str × Sl)} (h : EVS C n sc r [e1, e2, e3, e4] [t1, t2, t3, t4]) (U1 : UPD r x t1 r1) (U2 : UPD r1 y t2 r2) (U3 : UPD r2 z t3 r3) (U4 : UPD r3 w t4 r')
    (hx : Loc sc x) (hy : Loc sc y) (hz : Loc sc z) (hw' : Loc sc w)
    (hs : ∀ env : Env, swapsWithSole [.Tuple [.Name x px, .Name y py, .Name z pz, .Name w pw] k tpos] (.Tuple [e1, e2, e3, e4] k2 vpos) pos.line env = pure false)
    (hw : ∀ env : Env, env.scope = sc → swappedStores [.Tuple [.Name x px, .Name y py, .Name z pz, .Name w pw] k tpos] (.Tuple [e1, e2, e3, e4] k2 vpos) env = pure none) :
    EX C n sc r (.Assign [.Tuple [.Name x px, .Name y py, .Name z pz, .Name w pw] k tpos] (.Tuple [e1, e2, e3, e4] k2 vpos) pos) (.next r') :=
  EX.tupIn (xs := [(x, px), (y, py), (z, pz), (w, pw)]) rfl h rfl (by decide : 4 ≤ 8) (fun v hv => by
    rcases List.mem_cons.mp hv with rfl | hv
    · exact hx
    · rcases List.mem_cons.mp hv with rfl | hv
      · exact hy
      · rcases List.mem_cons.mp hv with rfl | hv
        · exact hz
        · rcases List.mem_cons.mp hv with rfl | hv
          · exact hw'
          · cases hv) (.cons U1 (.cons U2 (.cons U3 (.cons U4 .nil)))) hs hw

theorem EX.v2 {x y : Str} {px py tpos pos : Pos} {e : Expr} {k : Nat} {d1 d2 : V} {r1 r' : List (Str × Sl)} (h : EV C n sc r e (.tup [d1, d2])) (U1 : UPD r x (.val d1) r1) (U2 : UPD r1 y (.val d2) r') (hx : Loc sc x) (hy : Loc sc y)
    (hs : ∀ env : Env, swapsWithSole [.Tuple [.Name x px, .Name y py] k tpos] e pos.line env = pure false)
    (hw : ∀ env : Env, env.scope = sc → swappedStores [.Tuple [.Name x px, .Name y py] k tpos] e env = pure none) :
    EX C n sc r (.Assign [.Tuple [.Name x px, .Name y py] k tpos] e pos) (.next r') :=
  EX.tupV (xs := [(x, px), (y, py)]) rfl h rfl (fun z hz => by
    rcases List.mem_cons.mp hz with rfl | hz
    · exact hx
    · rcases List.mem_cons.mp hz with rfl | hz
      · exact hy
      · cases hz) (.cons U1 (.cons U2 .nil)) hs hw
theorem EX.v3 {x y z : Str} {px py pz tpos pos : Pos} {e : Expr} {k : Nat} {d1 d2 d3 : V} {r1 r2 r' : List (Str × Sl)} (h : EV C n sc r e (.tup [d1, d2, d3])) (U1 : UPD r x (.val d1) r1) (U2 : UPD r1 y (.val d2) r2) (U3 : UPD r2 z (.val d3) r') (hx : Loc sc x) (hy : Loc sc y) (hz : Loc sc z)
    (hs : ∀ env : Env, swapsWithSole [.Tuple [.Name x px, .Name y py, .Name z pz] k tpos] e pos.line env = pure false)
    (hw : ∀ env : Env, env.scope = sc → swappedStores [.Tuple [.Name x px, .Name y py, .Name z pz] k tpos] e env = pure none) :
    EX C n sc r (.Assign [.Tuple [.Name x px, .Name y py, .Name z pz] k tpos] e pos) (.next r') :=
  EX.tupV (xs := [(x, px), (y, py), (z, pz)]) rfl h rfl (fun w hz' => by
    rcases List.mem_cons.mp hz' with rfl | hz'
    · exact hx
    · rcases List.mem_cons.mp hz' with rfl | hz'
      · exact hy
      · rcases List.mem_cons.mp hz' with rfl | hz'
        · exact hz
        · cases hz') (.cons U1 (.cons U2 (.cons U3 .nil))) hs hw
theorem EX.pop2 {v x y : Str} {pn ap cp px py tpos pos : Pos} {k0 : Nat} {init : List V} {d1 d2 : V} {r1 r2 r' : List (Str × Sl)} (k : LK r v (.own (init ++ [.tup [d1, d2]])))
    (U : UPD r v (.own init) r1) (U1 : UPD r1 x (.val d1) r2) (U2 : UPD r2 y (.val d2) r') (hx : Loc sc x) (hy : Loc sc y) (hline : (ap.endLine == cp.line) = true)
    (hs : ∀ env : Env, swapsWithSole [.Tuple [.Name x px, .Name y py] k0 tpos] (.Call (.Attribute (.Name v pn) "pop" ap) [] [] cp) pos.line env = pure false)
    (hw : ∀ env : Env, swappedStores [.Tuple [.Name x px, .Name y py] k0 tpos] (.Call (.Attribute (.Name v pn) "pop" ap) [] [] cp) env = pure none)
    (hd : (v == ("__debug__" : Str)) = false) (hcd : (v == ("__classdict__" : Str)) = false) :
    EX C n sc r (.Assign [.Tuple [.Name x px, .Name y py] k0 tpos] (.Call (.Attribute (.Name v pn) "pop" ap) [] [] cp) pos) (.next r') :=
  EX.popTup (xs := [(x, px), (y, py)]) rfl k U rfl (fun z hz => by
    rcases List.mem_cons.mp hz with rfl | hz
    · exact hx
    · rcases List.mem_cons.mp hz with rfl | hz
      · exact hy
      · cases hz) (.cons U1 (.cons U2 .nil)) hline hs hw (hd := hd) (hcd := hcd)
end
end Mine
end
section
open PySem PySem.W PyProof.Rows PySem.Calls PySem.SeqAt
namespace Mine
section
variable {C : Cx} {n : Nat} {sc : Scope} {r : List (Str × Sl)}

-- the shapes: what a goal is about, seen without unfolding
namespace Sh
theorem ret {e : Expr} {p : Pos} {ss : List Stmt} {o : Out} (h : EXs C n sc r (.Return (some e) p :: ss) o) : EXs C n sc r (.Return (some e) p :: ss) o := h
theorem asg {x : Str} {px p : Pos} {e : Expr} {ss : List Stmt} {o : Out} (h : EXs C n sc r (.Assign [.Name x px] e p :: ss) o) : EXs C n sc r (.Assign [.Name x px] e p :: ss) o := h
theorem tt2 {a b c d : Expr} {k k2 : Nat} {p q t : Pos} {ss : List Stmt} {o : Out} (h : EXs C n sc r (.Assign [.Tuple [a, b] k p] (.Tuple [c, d] k2 q) t :: ss) o) : EXs C n sc r (.Assign [.Tuple [a, b] k p] (.Tuple [c, d] k2 q) t :: ss) o := h
theorem tn2 {a b : Expr} {x : Str} {k : Nat} {p q t : Pos} {ss : List Stmt} {o : Out} (h : EXs C n sc r (.Assign [.Tuple [a, b] k p] (.Name x q) t :: ss) o) : EXs C n sc r (.Assign [.Tuple [a, b] k p] (.Name x q) t :: ss) o := h
theorem tc2 {a b : Expr} {x : Str} {k : Nat} {p t u v : Pos} {es : List Expr} {ss : List Stmt} {o : Out} (h : EXs C n sc r (.Assign [.Tuple [a, b] k p] (.Call (.Name x u) es [] v) t :: ss) o) : EXs C n sc r (.Assign [.Tuple [a, b] k p] (.Call (.Name x u) es [] v) t :: ss) o := h
theorem tc3 {a b c : Expr} {x : Str} {k : Nat} {p t u v : Pos} {es : List Expr} {ss : List Stmt} {o : Out} (h : EXs C n sc r (.Assign [.Tuple [a, b, c] k p] (.Call (.Name x u) es [] v) t :: ss) o) : EXs C n sc r (.Assign [.Tuple [a, b, c] k p] (.Call (.Name x u) es [] v) t :: ss) o := h
theorem aug {x : Str} {px p : Pos} {op : Operator} {e : Expr} {ss : List Stmt} {o : Out} (h : EXs C n sc r (.AugAssign (.Name x px) op e p :: ss) o) : EXs C n sc r (.AugAssign (.Name x px) op e p :: ss) o := h
theorem asub {x : Str} {px p : Pos} {e : Expr} {ss : List Stmt} {o : Out} (h : EXs C n sc r (.AugAssign (.Name x px) .Sub e p :: ss) o) : EXs C n sc r (.AugAssign (.Name x px) .Sub e p :: ss) o := h
theorem aadd {x : Str} {px p : Pos} {e : Expr} {ss : List Stmt} {o : Out} (h : EXs C n sc r (.AugAssign (.Name x px) .Add e p :: ss) o) : EXs C n sc r (.AugAssign (.Name x px) .Add e p :: ss) o := h
theorem nil {o : Out} (h : EXs C n sc r [] o) : EXs C n sc r [] o := h
theorem name {x : Str} {p : Pos} {d : V} (h : EV C n sc r (.Name x p) d) : EV C n sc r (.Name x p) d := h
theorem const {c : Const} {k : Nat} {p : Pos} {d : V} (h : EV C n sc r (.Constant c k p) d) : EV C n sc r (.Constant c k p) d := h
theorem bin {a b : Expr} {op : Operator} {p : Pos} {d : V} (h : EV C n sc r (.BinOp a op b p) d) : EV C n sc r (.BinOp a op b p) d := h
theorem cmp {a b : Expr} {op : CmpOp} {p : Pos} {d : V} (h : EV C n sc r (.Compare a [op] [b] p) d) : EV C n sc r (.Compare a [op] [b] p) d := h
theorem and {a b : Expr} {p : Pos} {d : V} (h : EV C n sc r (.BoolOp .And [a, b] p) d) : EV C n sc r (.BoolOp .And [a, b] p) d := h
theorem neg {a : Expr} {p : Pos} {d : V} (h : EV C n sc r (.UnaryOp .USub a p) d) : EV C n sc r (.UnaryOp .USub a p) d := h
theorem ife {a b c : Expr} {p : Pos} {d : V} (h : EV C n sc r (.IfExp a b c p) d) : EV C n sc r (.IfExp a b c p) d := h
theorem tup {es : List Expr} {k : Nat} {p : Pos} {d : V} (h : EV C n sc r (.Tuple es k p) d) : EV C n sc r (.Tuple es k p) d := h
theorem lst {es : List Expr} {p : Pos} {d : V} (h : EV C n sc r (.List es p) d) : EV C n sc r (.List es p) d := h
theorem slc {b : Expr} {x y z : Option Expr} {p q : Pos} {d : V} (h : EV C n sc r (.Subscript b (.Slice x y z p) q) d) : EV C n sc r (.Subscript b (.Slice x y z p) q) d := h
theorem slt {b i : Expr} {p q : Pos} {d : V} (h : EV C n sc r (.Subscript b (.Slice none (some i) none p) q) d) : EV C n sc r (.Subscript b (.Slice none (some i) none p) q) d := h
theorem sub {b i : Expr} {p : Pos} {d : V} (h : EV C n sc r (.Subscript b i p) d) : EV C n sc r (.Subscript b i p) d := h
theorem call {x : Str} {u p : Pos} {es : List Expr} {d : V} (h : EV C n sc r (.Call (.Name x u) es [] p) d) : EV C n sc r (.Call (.Name x u) es [] p) d := h
theorem abs {u p : Pos} {es : List Expr} {d : V} (h : EV C n sc r (.Call (.Name "abs" u) es [] p) d) : EV C n sc r (.Call (.Name "abs" u) es [] p) d := h
theorem len {u p : Pos} {es : List Expr} {d : V} (h : EV C n sc r (.Call (.Name "len" u) es [] p) d) : EV C n sc r (.Call (.Name "len" u) es [] p) d := h
theorem max {u p : Pos} {es : List Expr} {d : V} (h : EV C n sc r (.Call (.Name "max" u) es [] p) d) : EV C n sc r (.Call (.Name "max" u) es [] p) d := h
theorem list {u p : Pos} {es : List Expr} {d : V} (h : EV C n sc r (.Call (.Name "list" u) es [] p) d) : EV C n sc r (.Call (.Name "list" u) es [] p) d := h
theorem any {u p : Pos} {es : List Expr} {d : V} (h : EV C n sc r (.Call (.Name "any" u) es [] p) d) : EV C n sc r (.Call (.Name "any" u) es [] p) d := h
theorem sum {u p : Pos} {es : List Expr} {d : V} (h : EV C n sc r (.Call (.Name "sum" u) es [] p) d) : EV C n sc r (.Call (.Name "sum" u) es [] p) d := h
theorem int {u p : Pos} {es : List Expr} {d : V} (h : EV C n sc r (.Call (.Name "int" u) es [] p) d) : EV C n sc r (.Call (.Name "int" u) es [] p) d := h
theorem tcmp {a b : Expr} {op : CmpOp} {p : Pos} {d : Bool} (h : TS C n sc r (.Compare a [op] [b] p) d) : TS C n sc r (.Compare a [op] [b] p) d := h
theorem tnot {a : Expr} {p : Pos} {d : Bool} (h : TS C n sc r (.UnaryOp .Not a p) d) : TS C n sc r (.UnaryOp .Not a p) d := h
theorem tand {a b : Expr} {p : Pos} {d : Bool} (h : TS C n sc r (.BoolOp .And [a, b] p) d) : TS C n sc r (.BoolOp .And [a, b] p) d := h
theorem tor {a b : Expr} {p : Pos} {d : Bool} (h : TS C n sc r (.BoolOp .Or [a, b] p) d) : TS C n sc r (.BoolOp .Or [a, b] p) d := h
end Sh

/-- one item of a datum -/
noncomputable def ITEM (dv : V) (k : Int) (d : V) : Prop := (∃ l, dv = .lst l ∧ itemAt l k = some d) ∨ ∃ l, dv = .tup l ∧ itemAt l k = some d
theorem ITEM.t {l : List V} {k : Int} {d : V} (h : itemAt l k = some d) : ITEM (.tup l) k d := .inr ⟨l, rfl, h⟩
theorem ITEM.p {l : List Int} {k a : Int} (h : itemI l k = some a) : ITEM (pI l) k (.int a) := .inl ⟨_, rfl, itemM h⟩
theorem ITEM.l {l : List V} {k : Int} {d : V} (h : itemAt l k = some d) : ITEM (.lst l) k d := .inl ⟨l, rfl, h⟩
theorem ITEM.m {α : Type} {e : α → V} {l : List α} {k : Int} {a : α} (h : ((seqIndex? k l.length).bind fun j => l[j]?) = some a) : ITEM (.lst (l.map e)) k (e a) := .inl ⟨_, rfl, itemM h⟩
theorem EV.item {b i : Expr} {pos : Pos} {dv : V} {k : Int} {d : V} (h1 : EV C n sc r b dv) (h2 : EV C n sc r i (.int k)) (hi : ITEM dv k d)
    (hs : ∀ o iv, subscripted i false o iv = operate [o, iv] (getItem o iv)) : EV C n sc r (.Subscript b i pos) d := by
  rcases hi with ⟨l, rfl, h⟩ | ⟨l, rfl, h⟩
  · exact EV.itemL h1 h2 h hs
  · exact EV.itemT h1 h2 h hs
theorem EV.toP {e b : Expr} {sp pos : Pos} {l : List Int} {k : Int} (h1 : EV C n sc r b (pI l)) (h2 : EV C n sc r e (.int k)) (hk : 0 ≤ k)
    (ht : ∀ o rr, letTemporaryGo b o rr = pure ()) : EV C n sc r (.Subscript b (.Slice none (some e) none sp) pos) (pI (l.take k.toNat)) := by
  have := EV.sliceTo (sp := sp) (pos := pos) h1 h2 hk ht
  rwa [← List.map_take] at this
end
end Mine
end
section
open PySem PySem.W PyProof.Rows PySem.Calls PySem.SeqAt
namespace Mine
section
variable {C : Cx} {n : Nat} {sc : Scope} {r : List (Str × Sl)}

theorem EXs.ifF {t : Expr} {body ss : List Stmt} {pos : Pos} {out : Out} (h : TS C n sc r t false) (h2 : EXs C n sc r ss out) : EXs C n sc r (.If t body [] pos :: ss) out :=
  EXs.cons (EX.if h (fun e => nomatch e) fun _ => EXs.nil) h2
theorem EXs.ifT {t : Expr} {body orelse ss : List Stmt} {pos : Pos} {d : V} (h : TS C n sc r t true) (hb : EXs C n sc r body (.ret d)) : EXs C n sc r (.If t body orelse pos :: ss) (.ret d) :=
  EXs.ret (EX.if h (fun _ => hb) fun e => nomatch e)
theorem EXs.ifN {t : Expr} {body orelse ss : List Stmt} {pos : Pos} {out : Out} {r1 : List (Str × Sl)} (h : TS C n sc r t true) (hb : EXs C n sc r body (.next r1)) (h2 : EXs C n sc r1 ss out) : EXs C n sc r (.If t body orelse pos :: ss) out :=
  EXs.cons (EX.if h (fun _ => hb) fun e => nomatch e) h2
theorem EXs.ifO {t : Expr} {body orelse ss : List Stmt} {pos : Pos} {out : Out} {r1 : List (Str × Sl)} (h : TS C n sc r t false) (hb : EXs C n sc r orelse (.next r1)) (h2 : EXs C n sc r1 ss out) : EXs C n sc r (.If t body orelse pos :: ss) out :=
  EXs.cons (EX.if h (fun e => nomatch e) fun _ => hb) h2
theorem EXs.ifR {t : Expr} {body orelse ss : List Stmt} {pos : Pos} {d : V} (h : TS C n sc r t false) (hb : EXs C n sc r orelse (.ret d)) : EXs C n sc r (.If t body orelse pos :: ss) (.ret d) :=
  EXs.ret (EX.if h (fun e => nomatch e) fun _ => hb)

theorem EV.ifT {t x y : Expr} {pos : Pos} {d : V} (h : TS C n sc r t true) (h1 : EV C n sc r x d) : EV C n sc r (.IfExp t x y pos) d := EV.ifexp h (fun _ => h1) (fun e => nomatch e)
theorem EV.ifF {t x y : Expr} {pos : Pos} {d : V} (h : TS C n sc r t false) (h1 : EV C n sc r y d) : EV C n sc r (.IfExp t x y pos) d := EV.ifexp h (fun e => nomatch e) (fun _ => h1)

theorem LK.left {a b : List (Str × Sl)} {x : Str} {t : Sl} (h : LK a x t) : LK (a ++ b) x t := by
  induction h with
  | here => exact .here
  | next hne _ ih => exact .next hne ih
theorem Less.pre {a b : List (Str × Sl)} : Less (a ++ b) a := fun _ _ h => h.left
theorem Less.refl : Less r r := fun _ _ h => h
theorem EXs.nilL {r1 : List (Str × Sl)} (l : Less r r1) : EXs C n sc r [] (.next r1) := EXs.less l EXs.nil

theorem UPD.less {x : Str} {t : Sl} {r0 r1 : List (Str × Sl)} (l : Less r r0) (U : UPD r0 x t r1) : UPD r x t r1 := fun y u k => (U y u k).imp id fun ⟨a, b⟩ => ⟨a, l _ _ b⟩
theorem Less.nil : Less r [] := fun _ _ h => nomatch h
theorem Less.cons {x : Str} {t : Sl} {r1 : List (Str × Sl)} (k : LK r x t) (l : Less r r1) : Less r ((x, t) :: r1) := fun _ _ h => by
  cases h with
  | here => exact k
  | next _ h => exact l _ _ h

theorem FL.less {x : Str} {px : Pos} {body : List Stmt} {all : List V} {i : Nat} {r1 : List (Str × Sl)} {out : Out} (l : Less r r1) (h : FL C n sc x px body all i r1 out) : FL C n sc x px body all i r out :=
  fun env A s F G F0 I fp wr P St W st S h1 h2 h3 h4 ro R hq => h env A s F G F0 I fp wr P St W st (S.less l) h1 h2 h3 h4 ro R hq

theorem FL.indW {α : Type} {ea : α → V} {x : Str} {px : Pos} {body : List Stmt} (l : List α) (Inv : List α → List (Str × Sl) → Prop) {rf : List (Str × Sl)} (hk : Loc sc x)
    (hs : ∀ a xs r, Inv (a :: xs) r → ∃ r1 r2, UPD r x (.val (ea a)) r1 ∧ EXs C n sc r1 body (.next r2) ∧ Inv xs r2) (he : ∀ r, Inv [] r → Less r rf) :
    ∀ (xs pre : List α) (r : List (Str × Sl)), l = pre ++ xs → Inv xs r → FL C n sc x px body (l.map ea) pre.length r (.next rf)
  | [], pre, r, e, hi => by
    have e2 : pre.length = (l.map ea).length := by rw [List.length_map, e, List.append_nil]
    rw [e2]
    exact FL.less (he r hi) FL.nil
  | a :: xs, pre, r, e, hi => by
    obtain ⟨r1, r2, U, hb, hi2⟩ := hs a xs r hi
    have hd : (l.map ea)[pre.length]? = some (ea a) := by rw [List.getElem?_map, e]; simp
    refine FL.cons hd U hk hb ?_
    have := FL.indW (px := px) l Inv hk hs he xs (pre ++ [a]) r2 (by rw [e]; simp) hi2
    rwa [List.length_append, List.length_singleton] at this
theorem FL.ind {α : Type} {ea : α → V} {x : Str} {px : Pos} {body : List Stmt} {l : List α} (Inv : List α → List (Str × Sl) → Prop) {rf : List (Str × Sl)} (hk : Loc sc x) (h0 : Inv l r)
    (hs : ∀ a xs r, Inv (a :: xs) r → ∃ r1 r2, UPD r x (.val (ea a)) r1 ∧ EXs C n sc r1 body (.next r2) ∧ Inv xs r2) (he : ∀ r, Inv [] r → Less r rf) :
    FL C n sc x px body (l.map ea) 0 r (.next rf) := FL.indW l Inv hk hs he l [] r rfl h0

theorem EVO.ev {e : Expr} {ds : List V} (h : EVO C n sc r e ds) : EV C n sc r e (.lst ds) := by
  intro env A s F p Q E hq
  refine h env A s F p _ _ fun a vs k F' h' tk' x1 hF hs hg hr hc => ?_
  have up : Sub F' (PM.add F' a (lstO vs k)) := fun b o e => by
    unfold PM.add
    by_cases c : b = a
    · subst c; rw [hF] at e; cases e
    · rw [if_neg c]; exact e
  refine hq _ (PM.add F' a (lstO vs k)) h' tk' ⟨x1.up.trans up, fun b o e => ?_, x1.keep, fun b e1 e2 => ?_⟩ (rep_lst hr hF hc)
  · unfold PM.add at e
    by_cases c : b = a
    · subst c; rw [if_pos rfl] at e; cases e; exact hg
    · rw [if_neg c] at e; exact x1.le b o e
  · unfold PM.add at e2
    by_cases c : b = a
    · subst c; exact hs
    · rw [if_neg c] at e2; exact x1.fresh b e1 e2

theorem noStrs_map {α : Type} {e : α → V} (h : ∀ a, noStr (e a) = true) : ∀ l : List α, noStrs (l.map e) = true
  | [] => rfl
  | a :: l => by show (_ && _) = true; rw [h a, noStrs_map h l]; rfl
theorem noStr_int (a : Int) : noStr (.int a) = true := rfl
theorem noStr_rV (a : Int × Int) : noStr (rV a) = true := rfl
theorem noStr_ivV (a : (Int × Int) × (Int × Int)) : noStr (ivV a) = true := rfl

theorem CMP.neNil {α : Type} {e : α → V} (h : ∀ a, noStr (e a) = true) {l : List α} : CMP C .NotEq (.lst (l.map e)) (.lst []) (!l.isEmpty) := by
  refine CMP.neD (noStrs_map h l) rfl (Nat.le_trans (Nat.min_le_right _ _) (by decide)) ?_
  cases l <;> rfl
theorem CMP.eqNil {α : Type} {e : α → V} (h : ∀ a, noStr (e a) = true) {l : List α} : CMP C .Eq (.lst (l.map e)) (.lst []) l.isEmpty := by
  refine CMP.eqD (noStrs_map h l) rfl (Nat.le_trans (Nat.min_le_right _ _) (by decide)) ?_
  cases l <;> rfl
theorem eqv_rV (a b : Int × Int) : PyData.eqv (toPy (rV a)) (toPy (rV b)) = decide (a = b) := by
  show ((a.1 == b.1) && ((a.2 == b.2) && true)) = _
  rw [Bool.eq_iff_iff]; simp [Prod.ext_iff]
theorem CMP.eqR {a b : Int × Int} : CMP C .Eq (rV a) (rV b) (decide (a = b)) := CMP.eqD rfl rfl (of_decide_eq_true (by rfl)) (eqv_rV a b)
theorem CMP.neR {a b : Int × Int} : CMP C .NotEq (rV a) (rV b) (!decide (a = b)) := CMP.neD rfl rfl (of_decide_eq_true (by rfl)) (by rw [eqv_rV])
theorem CMP.eqIv {a b : (Int × Int) × (Int × Int)} : CMP C .Eq (ivV a) (ivV b) (decide (a = b)) := CMP.eqD rfl rfl (of_decide_eq_true (by rfl)) (by
  show (PyData.eqv (toPy (rV a.1)) (toPy (rV b.1)) && (PyData.eqv (toPy (rV a.2)) (toPy (rV b.2)) && true)) = _
  rw [eqv_rV, eqv_rV]
  rw [Bool.eq_iff_iff]; simp [Prod.ext_iff])

inductive RF (sc scope : Scope) (x : Str) (r : List (Str × Sl)) : List Str → List (Str × Sl) → Prop
  | nil : RF sc scope x r [] []
  | cons {y : Str} {d : V} {ys : List Str} {rf : List (Str × Sl)} (hne : y ≠ x) (k : LK r y (.val d)) (h1 : scope.names.lookup y = some .free) (h2 : sc.names.lookup y = some .cell) (h : RF sc scope x r ys rf) : RF sc scope x r (y :: ys) ((y, .val d) :: rf)
theorem RF.all {sc scope : Scope} {x : Str} {r : List (Str × Sl)} {ys : List Str} {rf : List (Str × Sl)} (h : RF sc scope x r ys rf) :
    ∀ p ∈ rf, p.1 ≠ x ∧ LK r p.1 p.2 ∧ (∃ d, p.2 = .val d) ∧ scope.names.lookup p.1 = some .free ∧ sc.names.lookup p.1 = some .cell := by
  induction h with
  | nil => exact fun _ h => nomatch h
  | cons hne k h1 h2 _ ih =>
    intro p hp
    rcases List.mem_cons.mp hp with rfl | hp
    · exact ⟨hne, k, ⟨_, rfl⟩, h1, h2⟩
    · exact ih p hp
theorem RF.has {sc scope : Scope} {x : Str} {r : List (Str × Sl)} {ys : List Str} {rf : List (Str × Sl)} (h : RF sc scope x r ys rf) : ∀ y ∈ ys, ∃ t, (y, t) ∈ rf := by
  induction h with
  | nil => exact fun _ h => nomatch h
  | cons _ _ _ _ _ ih =>
    intro y hy
    rcases List.mem_cons.mp hy with rfl | hy
    · exact ⟨_, List.mem_cons_self ..⟩
    · obtain ⟨t, ht⟩ := ih y hy
      exact ⟨t, List.mem_cons_of_mem _ ht⟩

theorem EV.compX {α β : Type} {ea : α → V} (eb : β → V) {f : α → Option β} {l : List α} {m : List β} {elt iter : Expr} {x : Str} {px : Pos} {scope : Scope} {pos : Pos} {rf : List (Str × Sl)} (ys : List Str) (hr : RF sc scope x r ys rf) (hq : mapG f l = some m)
    (hit : IT C n sc r iter (l.map ea)) (hb : ∀ a b, f a = some b → EV C n (relab scope sc) ((x, .val (ea a)) :: rf) elt (eb b)) (hlen : l.length ≤ 1000)
    (hx : scope.names.lookup x = some .local := by rfl)
    (hall : ∀ y ∈ scope.names, y.2 = .free → y.1 ∈ ys := by decide)
    (hcell : ∀ y ∈ scope.names, y.2 ≠ .cell := by decide) (hkind : scope.kind = .function := by rfl)
    (hnames : ∀ y ∈ scope.names, y.2 = .local → scope.names.lookup y.1 = some .local := by decide)
    (hs : ∀ env y, foldedSetIterable iter env y = pure y := by intro _ _; rfl) :
    EV C n sc r (.ListComp elt [⟨.Name x px, iter, [], 0⟩] scope pos) (.lst (m.map eb)) :=
  EV.compM rf hq hit hx hb (Nat.le_trans hlen (by decide)) hr.all (fun y hy => hr.has y (hall (y, .free) hy rfl)) hcell hkind hnames hs
theorem EV.compY {α β : Type} {ea : α → V} (eb : β → V) (t : α → Bool) (f : α → β) {l : List α} {elt iter c : Expr} {x : Str} {px : Pos} {scope : Scope} {pos : Pos} {rf : List (Str × Sl)} (ys : List Str) (hr : RF sc scope x r ys rf)
    (hit : IT C n sc r iter (l.map ea)) (hc : ∀ a ∈ l, TS C n (relab scope sc) ((x, .val (ea a)) :: rf) c (t a)) (hb : ∀ a ∈ l, t a = true → EV C n (relab scope sc) ((x, .val (ea a)) :: rf) elt (eb (f a))) (hlen : l.length ≤ 1000)
    (hx : scope.names.lookup x = some .local := by rfl)
    (hall : ∀ y ∈ scope.names, y.2 = .free → y.1 ∈ ys := by decide)
    (hcell : ∀ y ∈ scope.names, y.2 ≠ .cell := by decide) (hkind : scope.kind = .function := by rfl)
    (hnames : ∀ y ∈ scope.names, y.2 = .local → scope.names.lookup y.1 = some .local := by decide)
    (hs : ∀ env y, foldedSetIterable iter env y = pure y := by intro _ _; rfl) :
    EV C n sc r (.ListComp elt [⟨.Name x px, iter, [c], 0⟩] scope pos) (.lst (((l.filter t).map f).map eb)) :=
  EV.compF t f rf hit hx hc hb (Nat.le_trans hlen (by decide)) hr.all (fun y hy => hr.has y (hall (y, .free) hy rfl)) hcell hkind hnames hs

theorem mapG_some {α β : Type} (f : α → β) : ∀ l : List α, mapG (fun a => some (f a)) l = some (l.map f)
  | [] => rfl
  | a :: l => by unfold mapG; rw [mapG_some f l]; rfl

theorem seqIndex_nat {len j : Nat} (hj : j < len) : seqIndex? (j : Int) len = some j := by
  have e : (if (j : Int) < 0 then (j : Int) + (len : Int) else (j : Int)) = (j : Int) := if_neg (by omega)
  show (if (decide (0 ≤ (if (j : Int) < 0 then (j : Int) + (len : Int) else (j : Int))) && decide ((if (j : Int) < 0 then (j : Int) + (len : Int) else (j : Int)) < (len : Int))) = true then some (if (j : Int) < 0 then (j : Int) + (len : Int) else (j : Int)).toNat else none) = some j
  rw [e, if_pos (by rw [Bool.and_eq_true, decide_eq_true_eq, decide_eq_true_eq]; omega), Int.toNat_natCast]
theorem seqIndex_neg {k len : Nat} (h1 : 0 < k) (h2 : k ≤ len) : seqIndex? (-(k : Int)) len = some (len - k) := by
  have e : (if -(k : Int) < 0 then -(k : Int) + (len : Int) else -(k : Int)) = ((len - k : Nat) : Int) := by rw [if_pos (by omega)]; omega
  show (if (decide (0 ≤ (if -(k : Int) < 0 then -(k : Int) + (len : Int) else -(k : Int))) && decide ((if -(k : Int) < 0 then -(k : Int) + (len : Int) else -(k : Int)) < (len : Int))) = true then some (if -(k : Int) < 0 then -(k : Int) + (len : Int) else -(k : Int)).toNat else none) = some (len - k)
  rw [e, if_pos (by rw [Bool.and_eq_true, decide_eq_true_eq, decide_eq_true_eq]; omega), Int.toNat_natCast]
theorem seqIndex_last {len : Nat} (hl : 0 < len) : seqIndex? (-1) len = some (len - 1) := by
  have e : (if (-1 : Int) < 0 then (-1 : Int) + (len : Int) else (-1 : Int)) = ((len - 1 : Nat) : Int) := by rw [if_pos (by decide)]; omega
  show (if (decide (0 ≤ (if (-1 : Int) < 0 then (-1 : Int) + (len : Int) else (-1 : Int))) && decide ((if (-1 : Int) < 0 then (-1 : Int) + (len : Int) else (-1 : Int)) < (len : Int))) = true then some (if (-1 : Int) < 0 then (-1 : Int) + (len : Int) else (-1 : Int)).toNat else none) = some (len - 1)
  rw [e, if_pos (by rw [Bool.and_eq_true, decide_eq_true_eq, decide_eq_true_eq]; omega), Int.toNat_natCast]
theorem itemI_nat {p : List Int} {k : Int} {j : Nat} (hk : k = (j : Int)) (hj : j < p.length) : itemI p k = some (p.getD j 0) := by
  subst hk
  unfold itemI
  rw [seqIndex_nat hj]
  show p[j]? = _
  rw [List.getElem?_eq_getElem hj, List.getD_eq_getElem?_getD, List.getElem?_eq_getElem hj]; rfl
theorem itemI_last {p : List Int} (h : p ≠ []) : itemI p (-1) = some (p.getLastD 0) := by
  have hl : 0 < p.length := List.length_pos_iff.mpr h
  unfold itemI
  rw [seqIndex_last hl]
  show p[p.length - 1]? = _
  rw [← List.getLast?_eq_getElem?, List.getLastD_eq_getLast?]
  cases q : p.getLast? with
  | none => rw [List.getLast?_eq_none_iff] at q; exact absurd q h
  | some a => rfl
end
end Mine
end
section
open PySem PySem.W PyProof.Rows PySem.Calls PySem.SeqAt
namespace Mine
section
variable {C : Cx} {n : Nat} {sc : Scope} {r : List (Str × Sl)}
theorem EV.sliceFromG {b : Expr} {kd : Nat} {cp sp pos : Pos} {l : List V} {k : Nat} (h1 : EV C n sc r b (.lst l)) :
    EV C n sc r (.Subscript b (.Slice (some (.Constant (.int (k : Int)) kd cp)) none none sp) pos) (.lst (l.drop k)) := by
  intro env A s F p Q E hq
  refine Subscript_ (h1 env A s F p _ _ fun v1 F1 h1' tk1 x1 r1 => ?_)
  refine wpAny_Slice (wpAny_evalPart_some (wpAny_Constant_int (wpAny_evalPart_none ?_)))
  rw [evalPart_none]
  refine wpAny_pure ?_
  obtain ⟨a, vs, m, rfl, ha, hr, hc⟩ := r1.lst'
  have hl := x1.le _ _ ha
  generalize hO : ({ cls := .type "slice", data := .fields #[.int (k : Int) tk1, .none, .none] } : Obj) = o
  have e1 : Ext F1 h1' F1 (h1'.push o) := Ext.of_keep x1.le (push_keep _ _)
  have hL : (h1'.push o).IsList a vs.toArray := (show h1'.IsList a vs.toArray from ⟨_, hl, rfl, m, rfl⟩).push _
  have hT : ({ s with heap := h1'.push o, toks := tk1 + 1 } : Shared).TypeIs (.ref a) "list" := Heap.IsList.typeIs (s := { s with heap := h1'.push o, toks := tk1 + 1 }) hL
  subst hO
  unfold subscriptTail
  refine wpAny_bind ?_
  rw [getitemInPython_of_ne hT.not_modules]
  refine wpAny_bind (wpAny_specialOf hT slot_list_getitem.lookup ?_)
  have fin : wpAny C.M A (subscripted (.Slice (some (.Constant (.int (k : Int)) kd cp)) none none sp) false (.ref a) (.ref h1'.objs.size)) (fun r s₃ => wpAny C.M A (letTemporaryGo b (.ref a) r >>= fun _ => pure r) Q E s₃) E { s with heap := h1'.push { cls := .type "slice", data := .fields #[.int (k : Int) tk1, .none, .none] }, toks := tk1 + 1 } := by
    refine wpAny_operating (wpAny_getItem_list_slice hL (lo := some (k : Int)) (hi := none) (Heap.IsSliceOf.new ..) (.int _ _) .none .none (by simp) ?_ ?_)
    · rw [show slicePick vs.toArray (some (k : Int)) none none = (vs.drop k).toArray by simpa using slicePick_from' vs.toArray k]
      refine wpAny_bind (wpAny_letTemporaryGo (wpAny_pure ?_))
      exact ((hq.up (tk' := tk1) x1).up (tk' := tk1 + 1) e1).lst e1.le (hr.drop k) (by rw [List.length_drop]; omega) (tk1 + 1)
    · rw [List.size_toArray, hr.len, sizeLine_eq]; exact Nat.le_trans hc (by decide)
  first
    | exact wpAny_pure (wpAny_bind fin)
    | exact wpAny_bind (wpAny_pure (wpAny_bind fin))
    | exact wpAny_bind fin

theorem EX.setItemM {α : Type} {e0 : α → V} {x : Str} {pn sp pos : Pos} {i e : Expr} {l : List α} {j : Int} {a : α} {r' : List (Str × Sl)} (k : LK r x (.own (l.map e0))) (h : EV C n sc r e (e0 a)) (hi : EV C n sc r i (.int j)) (hj : 0 ≤ j ∧ j < l.length)
    (U : UPD r x (.own ((l.set j.toNat a).map e0)) r') (hs : ∀ env : Env, swapsWith e (some (.Subscript (.Name x pn) i sp)) pos.line env = pure false)
    (hd : (x == ("__debug__" : Str)) = false) (hcd : (x == ("__classdict__" : Str)) = false) :
    EX C n sc r (.Assign [.Subscript (.Name x pn) i sp] e pos) (.next r') :=
  EX.setItem k h hi (by rw [List.length_map]; exact hj) (by rw [← List.map_set]; exact U) hs hd hcd
theorem EX.appendM {α : Type} {e0 : α → V} {x : Str} {pn ap cp pos : Pos} {e : Expr} {l : List α} {a : α} {r' : List (Str × Sl)} (k : LK r x (.own (l.map e0))) (h : EV C n sc r e (e0 a)) (hl : l.length + 1 ≤ cap) (U : UPD r x (.own ((l ++ [a]).map e0)) r')
    (hline : (ap.endLine == cp.line) = true) (hse : ∀ env, starEach [e] env = [(false, eval e env)])
    (hbase : ∀ env, attributeBase (.Name x pn) "append" env (eval (.Name x pn) env) = eval (.Name x pn) env)
    (hd : (x == ("__debug__" : Str)) = false) (hcd : (x == ("__classdict__" : Str)) = false) :
    EX C n sc r (.Expr (.Call (.Attribute (.Name x pn) "append" ap) [e] [] cp) pos) (.next r') :=
  EX.append k h (by rw [List.length_map]; exact hl) (by rw [List.map_append] at U; exact U) hline hse hbase hd hcd
theorem lastM {α : Type} {l : List α} {a : α} (h : l.getLast? = some a) : ((seqIndex? (-1) l.length).bind fun j => l[j]?) = some a := by
  have hne : l ≠ [] := fun e => by rw [e] at h; cases h
  have hl : 0 < l.length := List.length_pos_iff.mpr hne
  rw [show (-1 : Int) = -((1 : Nat) : Int) from rfl, seqIndex_neg (by omega) hl]
  show l[l.length - 1]? = _
  rw [← List.getLast?_eq_getElem?]; exact h

theorem EX.insertM {α : Type} {e0 : α → V} {x : Str} {pn ap cp pos : Pos} {i e : Expr} {l : List α} {j : Nat} {a : α} {r' : List (Str × Sl)} (k : LK r x (.own (l.map e0))) (hi : EV C n sc r i (.int (j : Int))) (h : EV C n sc r e (e0 a)) (hj : j ≤ l.length) (hl : l.length + 1 ≤ cap)
    (U : UPD r x (.own ((l.take j ++ a :: l.drop j).map e0)) r')
    (hline : (ap.endLine == cp.line) = true) (hse : ∀ env, starEach [i, e] env = [(false, eval i env), (false, eval e env)])
    (hbase : ∀ env, attributeBase (.Name x pn) "insert" env (eval (.Name x pn) env) = eval (.Name x pn) env)
    (hd : (x == ("__debug__" : Str)) = false) (hcd : (x == ("__classdict__" : Str)) = false) :
    EX C n sc r (.Expr (.Call (.Attribute (.Name x pn) "insert" ap) [i, e] [] cp) pos) (.next r') :=
  EX.insert k hi h (by rw [List.length_map]; omega) (by rw [List.length_map]; exact hl)
    (by rw [Int.toNat_natCast]; rw [List.map_append, List.map_cons, List.map_take, List.map_drop] at U; exact U) hline hse hbase hd hcd
theorem EX.popM {v x y : Str} {pn ap cp px py tpos pos : Pos} {k0 : Nat} {st : List ((Int × Int) × (Int × Int))} {iv : (Int × Int) × (Int × Int)} {r1 r2 r' : List (Str × Sl)} (k : LK r v (.own ((iv :: st).reverse.map ivV)))
    (U : UPD r v (.own (st.reverse.map ivV)) r1) (U1 : UPD r1 x (.val (rV iv.1)) r2) (U2 : UPD r2 y (.val (rV iv.2)) r') (hx : Loc sc x) (hy : Loc sc y) (hline : (ap.endLine == cp.line) = true)
    (hs : ∀ env : Env, swapsWithSole [.Tuple [.Name x px, .Name y py] k0 tpos] (.Call (.Attribute (.Name v pn) "pop" ap) [] [] cp) pos.line env = pure false)
    (hw : ∀ env : Env, swappedStores [.Tuple [.Name x px, .Name y py] k0 tpos] (.Call (.Attribute (.Name v pn) "pop" ap) [] [] cp) env = pure none)
    (hd : (v == ("__debug__" : Str)) = false) (hcd : (v == ("__classdict__" : Str)) = false) :
    EX C n sc r (.Assign [.Tuple [.Name x px, .Name y py] k0 tpos] (.Call (.Attribute (.Name v pn) "pop" ap) [] [] cp) pos) (.next r') :=
  EX.pop2 (init := st.reverse.map ivV) (d1 := rV iv.1) (d2 := rV iv.2) (by rw [List.reverse_cons, List.map_append] at k; exact k) U U1 U2 hx hy hline hs hw hd hcd
end
end Mine
end
section
open PySem PySem.W PyProof.Rows PySem.Calls PySem.SeqAt
namespace Mine

/-- a frame right above the claim's caller -/
noncomputable def LE (env : Env) (A : Around) : Prop := A.frames = some [env] ∧ env.frame = some env.locals

/-- an expression that may turn the lists of its own -/
noncomputable def EW (C : Cx) (n : Nat) (sc : Scope) (r : List (Str × Sl)) (e : Expr) (d : V) (r' : List (Str × Sl)) : Prop :=
  ∀ (env : Env) (A : Around) (s : Shared) (F G F0 : PM), Fst C G F0 env sc r F s.heap → Room n A → LE env A → ∀ (Q E : Value → Shared → Prop),
    (∀ v F' h' tk', Sub F F' → Fst C G F0 env sc r' F' h' → Rep F' v d → Q v { s with heap := h', toks := tk' }) → wpAny C.M A (eval e env) Q E s
noncomputable def EWs (C : Cx) (n : Nat) (sc : Scope) (r : List (Str × Sl)) (es : List Expr) (ds : List V) (r' : List (Str × Sl)) : Prop :=
  ∀ (env : Env) (A : Around) (s : Shared) (F G F0 : PM), Fst C G F0 env sc r F s.heap → Room n A → LE env A → ∀ (pos : Pos) (Q : List Value → Shared → Prop) (E : Value → Shared → Prop),
    (∀ vs F' h' tk', Sub F F' → Fst C G F0 env sc r' F' h' → Reps F' vs ds → Q vs { s with heap := h', toks := tk' }) → wpAny C.M A (spliced (backTo pos (starEach es env))) Q E s
noncomputable def TW (C : Cx) (n : Nat) (sc : Scope) (r : List (Str × Sl)) (e : Expr) (b : Bool) (r' : List (Str × Sl)) : Prop :=
  ∀ (env : Env) (A : Around) (s : Shared) (F G F0 : PM), Fst C G F0 env sc r F s.heap → Room n A → LE env A → ∀ (Q : Bool → Shared → Prop) (E : Value → Shared → Prop),
    (∀ F' h' tk', Sub F F' → Fst C G F0 env sc r' F' h' → Q b { s with heap := h', toks := tk' }) → wpAny C.M A (isTrue e env (eval e env)) Q E s
noncomputable def EXW (C : Cx) (n : Nat) (sc : Scope) (r : List (Str × Sl)) (st : Stmt) (out : Out) : Prop :=
  ∀ (env : Env) (A : Around) (s : Shared) (F G F0 : PM), Fst C G F0 env sc r F s.heap → Room n A → LE env A → ∀ (Q : Flow → Shared → Prop) (E : Value → Shared → Prop), OutP C G F0 env sc s Q out → wpAny C.M A (exec st env) Q E s
noncomputable def EXWs (C : Cx) (n : Nat) (sc : Scope) (r : List (Str × Sl)) (ss : List Stmt) (out : Out) : Prop :=
  ∀ (env : Env) (A : Around) (s : Shared) (F G F0 : PM), Fst C G F0 env sc r F s.heap → Room n A → LE env A → ∀ (Q : Flow → Shared → Prop) (E : Value → Shared → Prop), OutP C G F0 env sc s Q out → wpAny C.M A (execs ss env) Q E s

section
variable {C : Cx} {n : Nat} {sc : Scope} {r r1 r2 r' : List (Str × Sl)}

theorem EV.toW {e : Expr} {d : V} (h : EV C n sc r e d) : EW C n sc r e d r := by
  intro env A s F G F0 S ro le Q E hq
  exact h env A s F (S.pre ro) Q E fun v F1 h1 tk1 x1 r1 => hq v F1 h1 tk1 x1.up (S.ext x1) r1
theorem TS.toW {e : Expr} {b : Bool} (h : TS C n sc r e b) : TW C n sc r e b r := by
  intro env A s F G F0 S ro le Q E hq
  exact h env A s F (S.pre ro) Q E fun F1 h1 tk1 x1 => hq F1 h1 tk1 x1.up (S.ext x1)
theorem EX.toW {st : Stmt} {out : Out} (h : EX C n sc r st out) : EXW C n sc r st out := fun env A s F G F0 S ro _ Q E hq => h env A s F G F0 S ro Q E hq
theorem EXs.toW {ss : List Stmt} {out : Out} (h : EXs C n sc r ss out) : EXWs C n sc r ss out := fun env A s F G F0 S ro _ Q E hq => h env A s F G F0 S ro Q E hq
theorem EXWs.cons {st : Stmt} {ss : List Stmt} {out : Out} (h1 : EXW C n sc r st (.next r1)) (h2 : EXWs C n sc r1 ss out) : EXWs C n sc r (st :: ss) out := by
  intro env A s F G F0 S ro le Q E hq
  refine wpAny_execs_cons (h1 env A s F G F0 S ro le _ _ fun F1 h1' tk1 S1 => ?_)
  exact h2 env A _ F1 G F0 S1 ro le Q E hq.up
theorem EXWs.ret {st : Stmt} {ss : List Stmt} {d : V} (h1 : EXW C n sc r st (.ret d)) : EXWs C n sc r (st :: ss) (.ret d) := by
  intro env A s F G F0 S ro le Q E hq
  exact wpAny_execs_cons (h1 env A s F G F0 S ro le _ _ fun v F1 h1' tk1 L rv => hq v F1 h1' tk1 L rv)
theorem EXWs.nil : EXWs C n sc r [] (.next r) := EXs.nil.toW
theorem EXWs.less {ss : List Stmt} {out : Out} (l : Less r r1) (h : EXWs C n sc r1 ss out) : EXWs C n sc r ss out :=
  fun env A s F G F0 S ro le Q E hq => h env A s F G F0 (S.less l) ro le Q E hq

theorem EWs.nil : EWs C n sc r [] [] r := by
  intro env A s F G F0 S ro le pos Q E h
  exact args_nil (h [] F s.heap s.toks (Sub.refl _) S Reps.nil)
theorem EWs.cons {e : Expr} {es : List Expr} {d : V} {ds : List V} (h1 : EW C n sc r e d r1) (h2 : EWs C n sc r1 es ds r')
    (he : ∀ env, starEach (e :: es) env = (false, eval e env) :: starEach es env := by intro _; rfl) : EWs C n sc r (e :: es) (d :: ds) r' := by
  intro env A s F G F0 S ro le pos Q E h
  refine args_cons (h1 env A s F G F0 S ro le _ _ fun v F1 h1' tk1 up1 S1 rv1 => ?_) (he env)
  exact h2 env A _ F1 G F0 S1 ro le pos _ _ fun vs F2 h2' tk2 up2 S2 rv2 => h _ F2 h2' tk2 (up1.trans up2) S2 (Reps.cons (rv1.mono up2) rv2)
theorem EVs.toW {es : List Expr} {ds : List V} (h : EVs C n sc r es ds) : EWs C n sc r es ds r := by
  intro env A s F G F0 S ro le pos Q E hq
  exact h env A s F (S.pre ro) pos Q E fun v F1 h1 tk1 x1 r1 => hq v F1 h1 tk1 x1.up (S.ext x1) r1

theorem EW.tuple {es : List Expr} {k : Nat} {pos : Pos} {ds : List V} (h : EWs C n sc r es ds r') (hl : ds.length ≤ cap) : EW C n sc r (.Tuple es k pos) (.tup ds) r' := by
  intro env A s F G F0 S ro le Q E hq
  refine wpAny_Tuple_spliced (h env A s F G F0 S ro le pos _ _ fun vs F1 h1 tk1 up1 S1 rv1 => ⟨?_, ?_⟩)
  · rw [rv1.len, sizeLine_eq]; exact Nat.le_trans hl (by decide)
  · have x1 : Ext F1 h1 (F1.add h1.objs.size (tupO vs)) (h1.push (tupO vs)) := Ext.push S1.lt.le rfl
    exact hq _ _ _ tk1 (up1.trans x1.up) (S1.ext x1) (rep_tup rv1 (none_of_le S1.lt.le (fresh_size _)) hl)

theorem EW.bin {l e : Expr} {op : Operator} {pos : Pos} {a b c : V} (h1 : EW C n sc r l a r1) (h2 : EW C n sc r1 e b r') (ho : BIN C op a b c) : EW C n sc r (.BinOp l op e pos) c r' := by
  intro env A s F G F0 S ro le Q E hq
  refine wpAny_BinOp (h1 env A s F G F0 S ro le _ _ fun v1 F1 h1' tk1 up1 S1 rv1 => ?_)
  refine h2 env A _ F1 G F0 S1 ro le _ _ fun v2 F2 h2' tk2 up2 S2 rv2 => ?_
  exact ho A _ F2 ro.unLt S2.lt.base S2.lt.le v1 v2 (rv1.mono up2) rv2 Q E fun v3 F3 h3 tk3 x3 r3 => hq v3 F3 h3 tk3 ((up1.trans up2).trans x3.up) (S2.ext x3) r3

theorem EW.callN {x : Str} {np pos : Pos} {e : Expr} {es : List Expr} {ds : List V} {d : V} {m : Nat} (hk : sc.names.lookup x = some .globalImplicit) (ha : EWs C n sc r (e :: es) ds r') (hc : CN C m x ds d) (hm : m ≤ n)
    (he : ∀ env, starEach (e :: es) env = (false, eval e env) :: starEach es env := by intro _; rfl) (hd : (x == ("__debug__" : Str)) = false := by decide) :
    EW C n sc r (.Call (.Name x np) (e :: es) [] pos) d r' := by
  intro env A s F G F0 S ro le Q E hq
  obtain ⟨f, o, fd, hv, ho, hdat, hcl⟩ := hc
  refine wpAny_Call_NameR (loadG (S.pre ro) hk hv ?_ hd)
  refine callWith_def hdat (ha env A s F G F0 S ro le pos _ _ fun vs F1 h1 tk1 up1 S1 r1 => ⟨S1.lt.le _ _ (S1.lt.base _ _ ho), ?_⟩) (he env)
  exact (hcl.mono hm) A _ F1 ro S1.lt.base S1.lt.le vs r1 Q E fun v F2 h2 tk2 x2 rv => hq v F2 h2 tk2 (up1.trans x2.up) (S1.ext x2) rv

theorem TW.cmp {l e : Expr} {op : CmpOp} {pos : Pos} {a b : V} {q : Bool} (h1 : EW C n sc r l a r1) (h2 : EW C n sc r1 e b r') (ho : CMP C op a b q)
    (hm : behindInMarks op e = false := by with_unfolding_all rfl) : TW C n sc r (.Compare l [op] [e] pos) q r' := by
  intro env A s F G F0 S ro le Q E hq
  refine wpAny_isTrue_Compare1 (h1 env A s F G F0 S ro le _ _ fun v1 F1 h1' tk1 up1 S1 rv1 => ?_) hm
  refine h2 env A _ F1 G F0 S1 ro le _ _ fun v2 F2 h2' tk2 up2 S2 rv2 => ?_
  refine ho A _ F2 (by have := ro.un; omega) S2.lt.base S2.lt.le v1 v2 (rv1.mono up2) rv2 _ E fun v3 F3 h3 tk3 x3 r3 => ?_
  obtain rfl := r3.bool'
  exact wpAny_truthy_bool (hq F3 h3 tk3 ((up1.trans up2).trans x3.up) (S2.ext x3))

theorem TW.not {e : Expr} {pos : Pos} {q : Bool} (h : TW C n sc r e q r') : TW C n sc r (.UnaryOp .Not e pos) (!q) r' := by
  intro env A s F G F0 S ro le Q E hq
  exact wpAny_isTrue_Not (h env A s F G F0 S ro le _ _ hq)

theorem TW.val {e : Expr} {q : Bool} (h : EW C n sc r e (.bool q) r') (he : ∀ env whole, isTrue e env whole = (do let v ← whole; standAt e.pos; holding [v] (truthy v)) := by intro _ _; rfl) : TW C n sc r e q r' := by
  intro env A s F G F0 S ro le Q E hq
  refine wpAny_isTrue_value (h env A s F G F0 S ro le _ _ fun v F1 h1 tk1 up1 S1 r1 => ?_) (he env _)
  obtain rfl := r1.bool'
  exact wpAny_truthy_bool (hq F1 h1 tk1 up1 S1)

theorem TW.orFF {x y : Expr} {pos : Pos} (h1 : TW C n sc r x false r1) (h2 : TW C n sc r1 y false r') : TW C n sc r (.BoolOp .Or [x, y] pos) false r' := by
  intro env A s F G F0 S ro le Q E hq
  refine wpAny_isTrue_BoolOp (wpAny_allTrue_Or_cons (h1 env A s F G F0 S ro le _ _ fun F1 h1' tk1 up1 S1 => ?_))
  simp only [Bool.false_eq_true, if_false]
  refine wpAny_allTrue_Or_cons (h2 env A _ F1 G F0 S1 ro le _ _ fun F2 h2' tk2 up2 S2 => ?_)
  simp only [Bool.false_eq_true, if_false]
  exact wpAny_allTrue_Or_nil (hq F2 h2' tk2 (up1.trans up2) S2)

theorem EXW.if {t : Expr} {body orelse : List Stmt} {pos : Pos} {b : Bool} {out : Out} (h : TW C n sc r t b r1) (h1 : b = true → EXWs C n sc r1 body out) (h2 : b = false → EXWs C n sc r1 orelse out) : EXW C n sc r (.If t body orelse pos) out := by
  intro env A s F G F0 S ro le Q E hq
  refine wpAny_If (h env A s F G F0 S ro le _ _ fun F1 h1' tk1 up1 S1 => ?_)
  cases b with
  | true => simp only [if_true]; exact h1 rfl env A _ F1 G F0 S1 ro le Q E hq.up
  | false => simp only [Bool.false_eq_true, if_false]; exact h2 rfl env A _ F1 G F0 S1 ro le Q E hq.up

theorem EXW.assign {x : Str} {px pos : Pos} {e : Expr} {d : V} (h : EW C n sc r e d r1) (U : UPD r1 x (.val d) r') (hk : sc.names.lookup x = some .local ∨ sc.names.lookup x = some .cell)
    (hs : ∀ env : Env, env.scope = sc → swapsWith e (some (.Name x px)) pos.line env = pure false) : EXW C n sc r (.Assign [.Name x px] e pos) (.next r') := by
  intro env A s F G F0 S ro le Q E hq
  refine wpAny_Assign_Name (h env A s F G F0 S ro le _ _ fun v F1 h1 tk1 up1 S1 r1 => ?_) (hs env S.ok.is)
  exact storeVar S1 U hk r1 (fun ds e => by cases e) fun h' tk' S' _ => hq F1 h' tk' S'

/-- x, y = e1, e2 whose stores go backwards -/
theorem EXW.sw2 {x y : Str} {px py tpos vpos pos : Pos} {e1 e2 : Expr} {k k2 : Nat} {d1 d2 : V} (h : EWs C n sc r [e1, e2] [d1, d2] r1) (U1 : UPD r1 y (.val d2) r2) (U2 : UPD r2 x (.val d1) r') (hx : Loc sc x) (hy : Loc sc y)
    (hs : ∀ env : Env, swapsWithSole [.Tuple [.Name x px, .Name y py] k tpos] (.Tuple [e1, e2] k2 vpos) pos.line env = pure false)
    (hw : ∀ env : Env, env.scope = sc → swappedStores [.Tuple [.Name x px, .Name y py] k tpos] (.Tuple [e1, e2] k2 vpos) env = pure (some [x, y])) :
    EXW C n sc r (.Assign [.Tuple [.Name x px, .Name y py] k tpos] (.Tuple [e1, e2] k2 vpos) pos) (.next r') := by
  intro env A s F G F0 S ro le Q E hq
  refine Assign_Tuple_swapped ?_ (hs env) (hw env S.ok.is)
  refine wpAny_Tuple_spliced (h env A s F G F0 S ro le vpos _ _ fun vs F1 h1 tk1 up1 S1 rv1 => ⟨?_, ?_⟩)
  · rw [rv1.len, sizeLine_eq]; exact of_decide_eq_true (by rfl)
  · obtain ⟨v, w, rfl, rv, rw'⟩ := rv1.two
    have e1 : Ext F1 h1 F1 (h1.push (tupO [v, w])) := Ext.of_keep S1.lt.le (push_keep _ _)
    have hT : (h1.push (tupO [v, w])).IsTuple h1.objs.size [v, w].toArray := ⟨_, Heap.get?_push_size _ rfl, rfl, 0, rfl⟩
    refine unpackItems_at ro.hh hT rfl fun h2 hx2 => ?_
    have e2 : Ext F1 (h1.push (tupO [v, w])) F1 h2 := Ext.of_keep e1.le fun b o e => hx2 b o (Nat.ne_of_lt (Heap.lt_size e)) e
    show wpAny C.M A (assignInOrder [fun v => bindName env y v, fun v => bindName env x v] [w, v]) (fun _ => Q .next) E { s with heap := h2, toks := tk1 }
    refine storeSeq (f := fun (x : Str) v => bindName env x v) (nm := id) (fun x v s Q hw => wpAny_bindName hw) [y, x] [(w, .val d2), (v, .val d1)] r1 r' { s with heap := h2, toks := tk1 } F1 G F0 (fun _ => Q .next) rfl (S1.ext (e1.trans e2)) (fun z hz => ?_) (.cons U1 (.cons U2 .nil))
      ⟨rw', (fun _ _ _ ⟨_, e⟩ => by cases e), rv, (fun _ h => nomatch h), trivial⟩ (fun p hp ⟨ds, e⟩ => ?_) (fun h' tk' S' => hq F1 h' tk' S')
    · rcases List.mem_cons.mp hz with rfl | hz
      · exact hy
      · rcases List.mem_cons.mp hz with rfl | hz
        · exact hx
        · cases hz
    · rcases List.mem_cons.mp hp with rfl | hp
      · cases e
      · rcases List.mem_cons.mp hp with rfl | hp
        · cases e
        · cases hp

/-- one item of a list display by a drawn index -/
theorem EW.itemL {b i : Expr} {pos : Pos} {l : List V} {k : Int} {d : V} (h1 : EV C n sc r b (.lst l)) (h2 : EW C n sc r i (.int k) r') (hi : itemAt l k = some d)
    (hs : ∀ o iv, subscripted i false o iv = operate [o, iv] (getItem o iv)) : EW C n sc r (.Subscript b i pos) d r' := by
  intro env A s F G F0 S ro le Q E hq
  refine Subscript_ (h1 env A s F (S.pre ro) _ _ fun v1 F1 h1' tk1 x1 rv1 => ?_)
  refine h2 env A _ F1 G F0 (S.ext x1) ro le _ _ fun v2 F2 h2' tk2 up2 S2 rv2 => ?_
  obtain ⟨t, rfl⟩ := rv2.int'
  obtain ⟨a, vs, m, rfl, ha, hr, hc⟩ := rv1.lst'
  have hl := S2.lt.le _ _ (up2 _ _ ha)
  unfold subscriptTail
  refine wpAny_bind ?_
  have hT : ({ s with heap := h2', toks := tk2 } : Shared).TypeIs (.ref a) "list" := ⟨_, hl, rfl⟩
  rw [getitemInPython_of_ne hT.not_modules]
  refine wpAny_bind (wpAny_specialOf hT slot_list_getitem.lookup ?_)
  have fin : wpAny C.M A (subscripted i false (.ref a) (.int k t)) (fun r s₃ => wpAny C.M A (letTemporaryGo b (.ref a) r >>= fun _ => pure r) Q E s₃) E { s with heap := h2', toks := tk2 } := by
    rw [hs]
    refine wpAny_operating (item_list (F := F2) hl (hr.mono up2) hc hi fun v rv => wpAny_bind (wpAny_letTemporaryGo (wpAny_pure ?_)))
    exact hq v F2 h2' tk2 (x1.up.trans up2) S2 rv
  first
    | exact wpAny_pure (wpAny_bind fin)
    | exact wpAny_bind (wpAny_pure (wpAny_bind fin))
    | exact wpAny_bind fin
end

/-- a for loop from its turn i on -/
noncomputable def FLW (C : Cx) (n : Nat) (sc : Scope) (x : Str) (px : Pos) (body : List Stmt) (all : List V) (i : Nat) (r : List (Str × Sl)) (out : Out) : Prop :=
  ∀ (env : Env) (A : Around) (s : Shared) (F G F0 : PM) (I : Addr) (fp wr : List Addr) (P : Nat → Value → Prop) (St : Nat → Heap → Prop), Walks C.prog C.w A I fp wr all.length P St → St i s.heap →
    Fst C (gw wr s.heap G) F0 env sc r F s.heap → (∀ b ∈ wr, F b = none ∧ F0 b = none ∧ G b = none) → (∀ b ∈ fp, b ∈ wr ∨ F b ≠ none) → (∀ i v, i < all.length → P i v → ∃ d, all[i]? = some d ∧ Rep F v d) →
    (∀ i h, St i h → ∀ b ∈ wr, h.get? b ≠ none) → Room n A → LE env A → ∀ (R : Result → Shared → Prop), OutP C G F0 env sc s (fun f s' => R (.ok f) s') out → codeAny C.M A (.forLoop (.Name x px) (.ref I) body [] env) R s

section
variable {C : Cx} {n : Nat} {sc : Scope} {r : List (Str × Sl)} {x : Str} {px : Pos} {body : List Stmt} {all : List V}
theorem FLW.nil : FLW C n sc x px body all all.length r (.next r) := fun env A s F G F0 I fp wr P St W hst S hwr hfp hP alive ro _ R hq => FL.nil env A s F G F0 I fp wr P St W hst S hwr hfp hP alive ro R hq
theorem FLW.less {i : Nat} {r1 : List (Str × Sl)} {out : Out} (l : Less r r1) (h : FLW C n sc x px body all i r1 out) : FLW C n sc x px body all i r out :=
  fun env A s F G F0 I fp wr P St W st S h1 h2 h3 h4 ro le R hq => h env A s F G F0 I fp wr P St W st (S.less l) h1 h2 h3 h4 ro le R hq
theorem FLW.cons {i : Nat} {d : V} {r1 r2 : List (Str × Sl)} {out : Out} (hd : all[i]? = some d) (U : UPD r x (.val d) r1) (hk : sc.names.lookup x = some .local ∨ sc.names.lookup x = some .cell)
    (hb : EXWs C n sc r1 body (.next r2)) (hr : FLW C n sc x px body all (i + 1) r2 out) : FLW C n sc x px body all i r out := by
  intro env A s F G F0 I fp wr P St W hst S hwr hfp hP alive ro le R hq
  have hi : i < all.length := (List.getElem?_eq_some_iff.mp hd).1
  refine for_one fun E => W.item i _ _ _ hi hst fun v h1 tk1 hPv hst1 hk1 => ?_
  obtain ⟨d', hd', rv⟩ := hP i v hi hPv
  rw [hd] at hd'; cases hd'
  have S1 : Fst C (gw wr h1 G) F0 env sc r F h1 := S.walk (alive _ _ hst) (fun b hb => (hwr b hb).1) hk1 (alive _ _ hst1)
  refine storeVar (s := { s with heap := h1, toks := tk1 }) S1 U hk rv (fun ds e => by cases e) fun h2 tk2 S2 _ => ?_
  refine hb env A _ F _ F S2.root ro le _ _ fun F3 h3 tk3 S3 => ?_
  have hsame : ∀ b ∈ wr, h3.get? b = h1.get? b := fun b hb => by
    cases q : h1.get? b with
    | none => exact absurd q (alive _ _ hst1 b hb)
    | some o => exact S3.lt.keep b o (by unfold gw; rw [if_pos hb]; exact q)
  have hgw : gw wr h3 G = gw wr h1 G := by
    funext a
    unfold gw
    by_cases c : a ∈ wr
    · rw [if_pos c, if_pos c, hsame a c]
    · rw [if_neg c, if_neg c]
  have hst3 : St (i + 1) h3 := by
    refine W.frame _ _ _ hst1 fun b hb o e => ?_
    rcases hfp b hb with c | c
    · exact (hsame b c).trans e
    · cases q : F b with
      | none => exact absurd q c
      | some o' =>
        have e1 := S1.lt.le b o' q
        rw [e] at e1; cases e1
        exact S3.lt.le b o (S3.lt.up b o q)
  have hF3 : ∀ b ∈ wr, F3 b = none := fun b hb => by
    by_cases c : F3 b = none
    · exact c
    · have := S3.lt.new b (hwr b hb).1 c
      unfold gw at this
      rw [if_pos hb] at this
      exact absurd this (alive _ _ hst1 b hb)
  have S3' : Fst C (gw wr h3 G) F0 env sc r2 F3 h3 := by rw [hgw]; exact S3.unroot S2.lt
  exact hr env A _ F3 G F0 I fp wr P St W hst3 S3' (fun b hb => ⟨hF3 b hb, (hwr b hb).2⟩) (fun b hb => (hfp b hb).imp id fun c q => c (by
      cases q' : F b with
      | none => rfl
      | some o => rw [S3.lt.up b o q'] at q; cases q)) (fun j v hj hp => let ⟨d, q1, q2⟩ := hP j v hj hp; ⟨d, q1, q2.mono S3.lt.up⟩) alive ro le R (OutP.up hq)

theorem EXW.for {iter : Expr} {pos : Pos} {out : Out} (hit : IT C n sc r iter all) (hf : FLW C n sc x px body all 0 r out)
    (hs : ∀ env y, foldedSetIterable iter env y = pure y := by intro _ _; rfl) : EXW C n sc r (.For (.Name x px) iter body [] pos) out := by
  intro env A s F G F0 S ro le Q E hq
  refine wpAny_For (hit env A s F (S.pre ro) _ E fun I fp wr P St F' h' tk' x0 W hst hfp hwr alive hfp2 hP => ?_) (hs env)
  have S1 := S.ext x0
  have hG : ∀ b ∈ wr, G b = none := fun b hb => by
    cases q : G b with
    | none => rfl
    | some o => have := S.lt.keep b o q; rw [(hwr b hb).2] at this; cases this
  have into : ∀ a, h'.get? a ≠ none → s.heap.get? a ≠ none → G a = none → gw wr h' G a = none := fun a _ hs0 e => by
    unfold gw
    by_cases c : a ∈ wr
    · exact absurd (hwr a c).2 hs0
    · rw [if_neg c]; exact e
  have S2 : Fst C (gw wr h' G) F0 env sc r F' h' := by
    refine ⟨S1.ok, ⟨S1.lt.base, S1.lt.le, fun b o e => ?_, S1.lt.up, fun a e ne => ?_⟩, ?_, fun y c hc => ?_, S1.apart, S1.hasc, S1.vals, ?_⟩
    · unfold gw at e
      by_cases c : b ∈ wr
      · rw [if_pos c] at e; exact e
      · rw [if_neg c] at e; exact S1.lt.keep b o e
    · unfold gw
      by_cases c : a ∈ wr
      · exact absurd (hwr a c).1 ne
      · rw [if_neg c]; exact S1.lt.new a e ne
    · obtain ⟨a, b, m, hn⟩ := S1.loc
      obtain ⟨_, _, m0, hn0⟩ := S.loc
      exact ⟨a, into _ (by obtain ⟨o, _, _, ho, _⟩ := hn; rw [ho]; exact fun q => nomatch q) (by obtain ⟨o, _, _, ho, _⟩ := hn0; rw [ho]; exact fun q => nomatch q) b, m, hn⟩
    · obtain ⟨a, b, v, hv⟩ := S1.cell y c hc
      obtain ⟨_, _, v0, hv0⟩ := S.cell y c hc
      exact ⟨a, into _ (by obtain ⟨o, ho, _⟩ := hv; rw [ho]; exact fun q => nomatch q) (by obtain ⟨o, ho, _⟩ := hv0; rw [ho]; exact fun q => nomatch q) b, v, hv⟩
    · obtain ⟨oa, h1, h2⟩ := S.own
      refine ⟨oa, fun y ds k => ?_, h2⟩
      obtain ⟨p1, p2, p3, vs, kk, p4, p5, p6⟩ := h1 y ds k
      have q := OwnAt.ext ⟨p1, p2, p3, vs, kk, p4, p5, p6⟩ x0
      obtain ⟨q1, q2, q3, ws, kw, q4, q5, q6⟩ := q
      exact ⟨q1, q2, into _ (by rw [q4]; exact fun q => nomatch q) (by rw [p4]; exact fun q => nomatch q) q3, ws, kw, q4, q5, q6⟩
  have hF0 : ∀ b ∈ wr, F0 b = none := fun b hb => by
    cases q : F0 b with
    | none => rfl
    | some o => have := S1.lt.up b o q; rw [(hwr b hb).1] at this; cases this
  refine hf env A _ F' G F0 I fp wr P St W hst S2 (fun b hb => ⟨(hwr b hb).1, hF0 b hb, hG b hb⟩) hfp2 hP alive ro le _ ?_
  cases out with
  | next r' => exact fun F' h' tk' S' => hq F' h' tk' S'
  | ret d => exact fun v F' h' tk' L rv => hq v F' h' tk' L rv

theorem FLW.indW {α : Type} {ea : α → V} {x : Str} {px : Pos} {body : List Stmt} (l : List α) (Inv : List α → List (Str × Sl) → Prop) {rf : List (Str × Sl)} (hk : Loc sc x)
    (hs : ∀ a xs r, a ∈ l → Inv (a :: xs) r → ∃ r1 r2, UPD r x (.val (ea a)) r1 ∧ EXWs C n sc r1 body (.next r2) ∧ Inv xs r2) (he : ∀ r, Inv [] r → Less r rf) :
    ∀ (xs pre : List α) (r : List (Str × Sl)), l = pre ++ xs → Inv xs r → FLW C n sc x px body (l.map ea) pre.length r (.next rf)
  | [], pre, r, e, hi => by
    have e2 : pre.length = (l.map ea).length := by rw [List.length_map, e, List.append_nil]
    rw [e2]
    exact FLW.less (he r hi) FLW.nil
  | a :: xs, pre, r, e, hi => by
    obtain ⟨r1, r2, U, hb, hi2⟩ := hs a xs r (by rw [e]; simp) hi
    have hd : (l.map ea)[pre.length]? = some (ea a) := by rw [List.getElem?_map, e]; simp
    refine FLW.cons hd U hk hb ?_
    have := FLW.indW (px := px) l Inv hk hs he xs (pre ++ [a]) r2 (by rw [e]; simp) hi2
    rwa [List.length_append, List.length_singleton] at this
theorem FLW.ind {α : Type} {ea : α → V} {x : Str} {px : Pos} {body : List Stmt} {l : List α} (Inv : List α → List (Str × Sl) → Prop) {rf : List (Str × Sl)} (hk : Loc sc x) (h0 : Inv l r)
    (hs : ∀ a xs r, a ∈ l → Inv (a :: xs) r → ∃ r1 r2, UPD r x (.val (ea a)) r1 ∧ EXWs C n sc r1 body (.next r2) ∧ Inv xs r2) (he : ∀ r, Inv [] r → Less r rf) :
    FLW C n sc x px body (l.map ea) 0 r (.next rf) := FLW.indW l Inv hk hs he l [] r rfl h0
end
end Mine
end
section
open PySem PySem.W PyProof.Rows PySem.Calls PySem.SeqAt
namespace Mine

theorem VarAt.butOne {env : Env} {h h' : Heap} {x : Str} {v : Value} {a : Addr} (hv : VarAt env h x v) (hk : ∀ b o, b ≠ a → h.get? b = some o → h'.get? b = some o) (hl : env.locals ≠ a) (hc : ∀ y c, env.cells.lookup y = some c → c ≠ a) : VarAt env h' x v := by
  rcases hv with ⟨e, m, hn, hm⟩ | ⟨e, c, hc', o, ho, hd⟩
  · exact .inl ⟨e, m, hn.at' fun o e => hk _ o hl e, hm⟩
  · exact .inr ⟨e, c, hc', o, hk _ _ (hc _ _ hc') ho, hd⟩

section
variable {C : Cx} {n : Nat} {sc : Scope} {r r1 r2 r' : List (Str × Sl)}

theorem Fst.notList {G F0 F : PM} {env : Env} {h : Heap} {a : Addr} {vs : List Value} {k : Nat} (S : Fst C G F0 env sc r F h) (ha : h.get? a = some (lstO vs k)) : env.locals ≠ a ∧ ∀ y c, env.cells.lookup y = some c → c ≠ a := by
  refine ⟨fun e => ?_, fun y c hc e => ?_⟩
  · obtain ⟨_, _, m, o, es, ep, ho, hd, _⟩ := S.loc
    rw [e, ha] at ho; cases ho; cases hd
  · obtain ⟨_, _, v, o, ho, hd⟩ := S.cell y c hc
    rw [e, ha] at ho; cases ho; cases hd

/-- x[i] = e, and where x stands -/
theorem setItemA {x : Str} {pn sp pos : Pos} {i e : Expr} {ds : List V} {j : Int} {d : V} (k : LK r x (.own ds)) (h : EV C n sc r e d) (hi : EV C n sc r i (.int j)) (hj : 0 ≤ j ∧ j < ds.length)
    (U : UPD r x (.own (ds.set j.toNat d)) r') (hs : ∀ env : Env, swapsWith e (some (.Subscript (.Name x pn) i sp)) pos.line env = pure false)
    (hd : (x == ("__debug__" : Str)) = false) (hcd : (x == ("__classdict__" : Str)) = false)
    (env : Env) (A : Around) (s : Shared) (F G F0 : PM) (S : Fst C G F0 env sc r F s.heap) (ro : Room n A) (Q : Flow → Shared → Prop) (E : Value → Shared → Prop)
    (hq : ∀ F' h' tk', Fst C G F0 env sc r' F' h' → (∀ a, VarAt env s.heap x (.ref a) → VarAt env h' x (.ref a)) → Q .next { s with heap := h', toks := tk' }) :
    wpAny C.M A (exec (.Assign [.Subscript (.Name x pn) i sp] e pos) env) Q E s := by
  refine wpAny_Assign_Subscript (h env A s F (S.pre ro) _ _ fun v F1 h1 tk1 x1 r1 => ?_) (hs env)
  have S1 := S.ext x1
  obtain ⟨a, ⟨w1, w2, w3, vs, kk, w4, w5, w6⟩, turn⟩ := S1.ownAt k
  refine wpAny_Name (loadVar S.ok w1 ?_ hcd) hd
  refine hi env A _ F1 ((S.pre ro).next x1) _ _ fun v2 F2 h2 tk2 x2 r2 => ?_
  obtain ⟨t, rfl⟩ := r2.int'
  have S2 := S1.ext (h' := h2) x2
  obtain ⟨a', ⟨y1, y2, y3, vs', kk', y4, y5, y6⟩, turn'⟩ := S2.ownAt k
  have : a' = a := by have := y1.inj (w1.keeps x2.keep); cases this; rfl
  subst this
  have hlen := y5.len
  unfold cap at y6
  refine setItem_upd (vs := vs') y4 hj.1 (by omega) (by rw [hlen]; exact hj.2) ?_
  have hg : ∃ k', (h2.update a' (Obj.mapSeq (·.setIfInBounds j.toNat v))).get? a' = some (lstO (vs'.set j.toNat v) k') := by
    obtain ⟨k', e⟩ := mapSeq_lst (f := fun xs : Array Value => xs.setIfInBounds j.toNat v) (vs := vs') (ws := vs'.set j.toNat v) (m := kk') (by simp)
    exact ⟨k', (Heap.get?_update_self _ y4 rfl).trans (congrArg some e)⟩
  obtain ⟨k', hg⟩ := hg
  have hsb : Heap.SameBut a' h2 (h2.update a' (Obj.mapSeq (·.setIfInBounds j.toNat v))) := Heap.SameBut.update ..
  have nl := S2.notList y4
  refine hq F2 _ tk2 (turn' _ r' _ (vs'.set j.toNat v) k' hsb hg ((y5.set (r1.mono x2.up) _)) (by rw [List.length_set]; exact y6) U) fun b hb => ?_
  have hb2 := hb.keeps (fun c o e => x2.keep c o (x1.keep c o e))
  exact hb2.butOne (fun c o hne e => (hsb.2 c hne).trans e) nl.1 nl.2

/-- a list of its own, frozen: what is then known -/
theorem Fst.freeze {G F0 F : PM} {env : Env} {h : Heap} {x : Str} {ds : List V} (S : Fst C G F0 env sc r F h) (k : LK r x (.own ds)) (U : UPD r x (.val (.lst ds)) r1) :
    ∃ a vs kk, VarAt env h x (.ref a) ∧ F a = none ∧ h.get? a = some (lstO vs kk) ∧ Reps F vs ds ∧ Fst C G (PM.add F a (lstO vs kk)) env sc r1 (PM.add F a (lstO vs kk)) h := by
  obtain ⟨oa, o1, o2⟩ := S.own
  obtain ⟨w1, w2, w3, vs, kk, w4, w5, w6⟩ := o1 x ds k
  have addNe : ∀ b, b ≠ oa x → PM.add F (oa x) (lstO vs kk) b = F b := fun b hb => by unfold PM.add; rw [if_neg hb]
  have up : Sub F (PM.add F (oa x) (lstO vs kk)) := fun b o e => by rw [addNe b (by rintro rfl; rw [w2] at e; cases e)]; exact e
  have le : Sub (PM.add F (oa x) (lstO vs kk)) h.get? := fun b o e => by
    unfold PM.add at e
    by_cases c : b = oa x
    · subst c; rw [if_pos rfl] at e; cases e; exact w4
    · rw [if_neg c] at e; exact S.lt.le b o e
  have nl := S.notList w4
  refine ⟨oa x, vs, kk, w1, w2, w4, w5, S.ok, ⟨S.lt.base.trans up, le, S.lt.keep, Sub.refl _, fun a e ne => absurd e ne⟩, ?_, fun y c hc => ?_, S.apart, S.hasc, fun y d q => ?_, ⟨oa, fun y es q => ?_, fun y z es fs q1 q2 e => ?_⟩⟩
  · exact ⟨by rw [addNe _ nl.1]; exact S.loc.1, S.loc.2⟩
  · obtain ⟨a, b, v, hv⟩ := S.cell y c hc
    exact ⟨by rw [addNe c (nl.2 y c hc)]; exact a, b, v, hv⟩
  · rcases U y _ q with ⟨rfl, e⟩ | ⟨hne, q⟩
    · cases e; exact ⟨_, w1, rep_lst w5 w2 w6⟩
    · obtain ⟨v, a, b⟩ := S.vals y d q
      exact ⟨v, a, b.mono up⟩
  · rcases U y _ q with ⟨_, e⟩ | ⟨hne, q⟩
    · cases e
    · obtain ⟨z1, z2, z3, ws, kw, z4, z5, z6⟩ := o1 y es q
      exact ⟨z1, by rw [addNe _ fun e => hne (o2 y x es ds q k e)]; exact z2, z3, ws, kw, z4, z5.mono up, z6⟩
  · rcases U y _ q1 with ⟨_, e1⟩ | ⟨_, q1⟩
    · cases e1
    · rcases U z _ q2 with ⟨_, e2⟩ | ⟨_, q2⟩
      · cases e2
      · exact o2 y z es fs q1 q2 e

/-- a callee turned a list of its own -/
theorem Fst.poke {G F0 F F1 : PM} {env : Env} {h h' : Heap} {x : Str} {ds ds' : List V} {a : Addr} {vs' : List Value} {k' : Nat} (S : Fst C G F0 env sc r F h) (k : LK r x (.own ds)) (U : UPD r x (.own ds') r') (hx : VarAt env h x (.ref a))
    (up : Sub F F1) (le1 : Sub F1 h'.get?) (hnew : ∀ b, F b = none → F1 b ≠ none → h.get? b = none) (hk : ∀ b o, b ≠ a → h.get? b = some o → h'.get? b = some o)
    (ha : h'.get? a = some (lstO vs' k')) (hr : Reps F1 vs' ds') (hc : ds'.length ≤ cap) : Fst C G F0 env sc r' F1 h' := by
  obtain ⟨oa, o1, o2⟩ := S.own
  obtain ⟨w1, w2, w3, vs, kk, w4, w5, w6⟩ := o1 x ds k
  have : oa x = a := by have := w1.inj hx; cases this; rfl
  subst this
  have nl := S.notList w4
  have none1 : ∀ b, F b = none → h.get? b ≠ none → F1 b = none := fun b e ne => by
    cases q : F1 b with
    | none => rfl
    | some o => exact absurd (hnew b e (by rw [q]; exact fun z => nomatch z)) ne
  have vk : ∀ {y : Str} {v : Value}, VarAt env h y v → VarAt env h' y v := fun hv => hv.butOne hk nl.1 nl.2
  refine ⟨S.ok, ⟨S.lt.base.trans up, le1, fun b o e => hk b o (by rintro rfl; rw [w3] at e; cases e) (S.lt.keep b o e), S.lt.up.trans up, fun b e ne => ?_⟩, ?_, fun y c hc => ?_, S.apart, S.hasc, fun y d q => ?_, ⟨oa, fun y es q => ?_, fun y z es fs q1 q2 e => ?_⟩⟩
  · cases q : F b with
    | none =>
      have := hnew b q ne
      cases q' : G b with
      | none => rfl
      | some o => rw [S.lt.keep b o q'] at this; cases this
    | some o => exact S.lt.new b e (by rw [q]; exact fun z => nomatch z)
  · obtain ⟨p, q, m, hn⟩ := S.loc
    obtain ⟨o, _, _, ho, _⟩ := id hn
    exact ⟨none1 _ p (by rw [ho]; exact fun z => nomatch z), q, m, hn.at' fun o e => hk _ o nl.1 e⟩
  · obtain ⟨p, q, v, o, ho, hd⟩ := S.cell y c hc
    exact ⟨none1 _ p (by rw [ho]; exact fun z => nomatch z), q, v, o, hk _ _ (nl.2 y c hc) ho, hd⟩
  · rcases U y _ q with ⟨rfl, e⟩ | ⟨hne, q⟩
    · cases e
    · obtain ⟨v, p, q⟩ := S.vals y d q
      exact ⟨v, vk p, q.mono up⟩
  · rcases U y _ q with ⟨rfl, e⟩ | ⟨hne, q⟩
    · cases e
      exact ⟨vk w1, none1 _ w2 (by rw [w4]; exact fun z => nomatch z), w3, vs', k', ha, hr, hc⟩
    · obtain ⟨z1, z2, z3, ws, kw, z4, z5, z6⟩ := o1 y es q
      exact ⟨vk z1, none1 _ z2 (by rw [z4]; exact fun z => nomatch z), z3, ws, kw, hk _ _ (fun e => hne (o2 y x es ds q k e)) z4, z5.mono up, z6⟩
  · have known : ∀ {y : Str} {es : List V}, LK r' y (.own es) → ∃ fs, LK r y (.own fs) := fun {y es} q => by
      rcases U y _ q with ⟨rfl, e⟩ | ⟨_, q⟩
      · exact ⟨ds, k⟩
      · exact ⟨es, q⟩
    obtain ⟨es', q1⟩ := known q1
    obtain ⟨fs', q2⟩ := known q2
    exact o2 y z es' fs' q1 q2 e

/-- the call of a def that turns its first argument, a list of its own, and gives an int -/
noncomputable def DR (C : Cx) (n : Nat) (f : Addr) (ds ds' : List V) (many v : Int) : Prop :=
  ∀ (A : Around) (s : Shared) (F : PM) (a : Addr) (vs : List Value) (k : Nat) (t : Tok), Room n A → Sub C.b0.get? F → Sub F s.heap.get? → F a = none → s.heap.get? a = some (lstO vs k) → Reps F vs ds → ds.length ≤ cap → ∀ (Q E : Value → Shared → Prop),
    (∀ F1 h' tk' vs' k' u, Sub F F1 → Sub F1 h'.get? → (∀ b, F b = none → F1 b ≠ none → s.heap.get? b = none) → (∀ b o, b ≠ a → s.heap.get? b = some o → h'.get? b = some o) → h'.get? a = some (lstO vs' k') → Reps F1 vs' ds' → Q (.int v u) { s with heap := h', toks := tk' }) →
    wpAny C.M A (call (.ref f) [.ref a, .int many t]) Q E s

theorem EW.draw {x y : Str} {np pp cp pos : Pos} {kk : Nat} {ds ds' : List V} {many v : Int} {f : Addr} {o : Obj} {fd : FuncData} {m : Nat} (hk : sc.names.lookup x = some .globalImplicit) (hv : C.mg x = some (.ref f)) (ho : C.b0.get? f = some o) (hdat : o.data = .func fd) (hD : DR C m f ds ds' many v) (hm : m ≤ n)
    (k : LK r y (.own ds)) (U : UPD r y (.own ds') r') (hc : ds'.length ≤ cap)
    (hd : (x == ("__debug__" : Str)) = false) (hyd : (y == ("__debug__" : Str)) = false) (hyc : (y == ("__classdict__" : Str)) = false) :
    EW C n sc r (.Call (.Name x np) [.Name y pp, .Constant (.int many) kk cp] [] pos) (.int v) r' := by
  intro env A s F G F0 S ro le Q E hq
  obtain ⟨oa, o1, o2⟩ := S.own
  obtain ⟨w1, w2, w3, vs, kk', w4, w5, w6⟩ := o1 y ds k
  refine wpAny_Call_NameR (loadG (S.pre ro) hk hv ?_ hd)
  refine callWith_def hdat ?_ rfl
  refine args_cons (wpAny_Name (loadVar S.ok w1 ?_ hyc) hyd) rfl
  refine args_cons (EV.cint (C := C) (n := n) (sc := sc) (r := r) env A s F (S.pre ro) _ _ fun v2 F2 h2 tk2 x2 r2 => ?_) rfl
  obtain ⟨t, rfl⟩ := r2.int'
  refine args_nil ?_
  have S2 := S.ext x2
  have w2' : F2 (oa y) = none := by
    cases q : F2 (oa y) with
    | none => rfl
    | some ob => have := x2.fresh _ w2 (by rw [q]; exact fun z => nomatch z); rw [w4] at this; cases this
  refine ⟨S2.lt.le _ _ (S2.lt.base _ _ ho), ?_⟩
  refine hD A { s with heap := h2, toks := tk2 } F2 (oa y) vs kk' t (ro.mono hm) S2.lt.base S2.lt.le w2' (x2.keep _ _ w4) (w5.mono x2.up) w6 Q E fun F1 h' tk' vs' k' u up le1 hnew hkk ha hr => ?_
  exact hq _ F1 h' tk' (x2.up.trans up) (S2.poke k U (w1.keeps x2.keep) up le1 hnew hkk ha hr hc) rep_int
end
end Mine
end
section
open PySem PySem.W PyProof.Rows PySem.Calls PySem.SeqAt
namespace Mine

theorem DR.intro {C : Cx} {n : Nat} {f : Addr} {fd : FuncData} {st : Stmt} {ss : List Stmt} {p q : Str} {ds ds' : List V} {many v : Int} {r1 r2 : List (Str × Sl)} (hf : FnAt C f fd (st :: ss))
    (hbind : ∀ v w : Value, bindArgs fd ⟨[v, w], []⟩ = pure [(p, v), (q, w)]) (hp : fd.scope.names.lookup p = some .local) (hq' : fd.scope.names.lookup q = some .local) (hpq : p ≠ q) (hqp : q ≠ p)
    (h1 : ∀ (env : Env) (A : Around) (s : Shared) (F G F0 : PM), Fst C G F0 env fd.scope [(p, .own ds), (q, .val (.int many))] F s.heap → Room n A → ∀ (Q : Flow → Shared → Prop) (E : Value → Shared → Prop),
      (∀ F' h' tk', Fst C G F0 env fd.scope r1 F' h' → (∀ a, VarAt env s.heap p (.ref a) → VarAt env h' p (.ref a)) → Q .next { s with heap := h', toks := tk' }) → wpAny C.M A (exec st env) Q E s)
    (k1 : LK r1 p (.own ds')) (U1 : UPD r1 p (.val (.lst ds')) r2) (h2 : EXs C n fd.scope r2 ss (.ret (.int v))) : DR C (n + 1) f ds ds' many v := by
  intro A s F a vs k t ro base le hFa hsa hr hc Q E hq
  obtain ⟨o, ho, hdat⟩ := hf.at_
  have keep0 : Sub C.b0.get? s.heap.get? := base.trans le
  have hcs : ∀ x, fd.scope.names.lookup x = some .cell → ∀ k, ((cellsFrom k fd.scope.names []).lookup x).isSome = true := fun x hx k => cellsFrom_some fd.scope.names k [] (.inl hx)
  refine wpAny_call (codeAny_call_cells ro.depLt (keep0 _ _ ho) hdat (C.lim.keeps keep0) (hf.code.keeps keep0) hf.body (hbind (.ref a) (.int many t)) hf.clo (fun x hx => ?_) (fun s₁ X => ?_) hf.co hf.gen hf.kind)
  · rcases List.mem_cons.mp hx with rfl | hx
    · exact .inl hp
    · rcases List.mem_cons.mp hx with rfl | hx
      · exact .inl hq'
      · cases hx
  · have henv : EnvOk (callEnvC fd s.heap.objs.size f) fd.scope := ⟨rfl, hf.kind, hf.gl, hf.bt⟩
    obtain ⟨h₁, tk, rfl, _⟩ := X.done
    have hk₁ := X.toInCall.keep
    have fr : ∀ a, s.heap.objs.size ≤ a → s.heap.get? a = none := fun a ha => Heap.get?_none_of_le ha
    have gn : ∀ b, s.heap.get? b = none → (if b = a then none else s.heap.get? b) = none := fun b hb => by split <;> simp [*]
    have vp : VarAt (callEnvC fd s.heap.objs.size f) h₁ p (.ref a) := .inl ⟨hp, _, X.toInCall.ns, bindL_get hp (List.mem_cons_self ..) (by simp [hpq])⟩
    have S : Fst C (fun b => if b = a then none else s.heap.get? b) F (callEnvC fd s.heap.objs.size f) fd.scope [(p, .own ds), (q, .val (.int many))] F h₁ := by
      refine ⟨henv, ⟨base, le.trans hk₁, fun b o e => ?_, Sub.refl _, fun _ e ne => absurd e ne⟩, ⟨none_of_le le (fresh_size _), gn _ (fresh_size _), _, X.toInCall.ns⟩, fun y c hc => ?_, fun y z c h1 h2 => name_of_addr X.apart (mem_of_lookup h1) (mem_of_lookup h2), fun x hx => hcs x hx _, fun x e k => ?_, ?_⟩
      · by_cases c : b = a
        · simp only [c, if_true] at e; cases e
        · simp only [c, if_false] at e; exact hk₁ b o e
      · have hg := fr c (Nat.le_of_lt (X.above y c (mem_of_lookup hc)))
        exact ⟨none_of_le le hg, gn _ hg, _, X.cell y c hc⟩
      · cases k with
        | next _ k =>
          cases k with
          | here => exact ⟨.int many t, .inl ⟨hq', _, X.toInCall.ns, bindL_get hq' (List.mem_cons_of_mem _ (List.mem_cons_self ..)) (by simp [hpq])⟩, rep_int⟩
          | next _ k => cases k
      · refine ⟨fun _ => a, fun y es k => ?_, fun y z es fs k1 k2 _ => ?_⟩
        · cases k with
          | here => exact ⟨vp, hFa, by simp, vs, _, hk₁ _ _ hsa, hr, hc⟩
          | next _ k =>
            cases k with
            | next _ k => cases k
        · cases k1 with
          | here =>
            cases k2 with
            | here => rfl
            | next _ k2 =>
              cases k2 with
              | next _ k => cases k
          | next _ k1 =>
            cases k1 with
            | next _ k => cases k
    refine wpAny_execs_cons (h1 _ _ _ F _ F S (ro.deeper _) _ _ fun F1 h1' tk1 S1 hvar => ?_)
    obtain ⟨a', vs', kk, hv, hF, hg, hr', S2⟩ := S1.freeze k1 U1
    have : a' = a := by have := hv.inj (hvar a vp); cases this; rfl
    subst this
    refine h2 _ _ { s with heap := h1', toks := tk1 } _ _ _ S2 (ro.deeper _) _ _ fun w F3 h3 tk3 L rw' => ?_
    obtain ⟨u, rfl⟩ := rw'.int'
    have up1 : Sub F1 (PM.add F1 a' (lstO vs' kk)) := fun b o e => by
      unfold PM.add
      by_cases c : b = a'
      · subst c; rw [hF] at e; cases e
      · rw [if_neg c]; exact e
    refine hq F1 h3 tk3 vs' kk u S1.lt.up ((up1.trans L.up).trans L.le) (fun b e ne => ?_) (fun b o hne e => L.keep b o (by simp only [hne, if_false]; exact e)) ((L.up.trans L.le) _ _ PM.add_self) hr'
    have := S1.lt.new b e ne
    by_cases c : b = a'
    · subst c; exact absurd hF ne
    · simpa [c] using this
end Mine
end
section
open PySem PySem.W PyProof.Rows PySem.Calls PySem.SeqAt
namespace Mine

section
variable {prog : Program} {w : World} {A : Around} {E : Value → Shared → Prop} {env : Env}
variable {nm q : Str} {C N : Addr} {bs bm : List Value} {hdct : Bool} {sn : List Str} {sub : List Value} {ab : Bool} {col : Option Bool} {dd : Option Addr} {k0 k1 k2 k3 k5 : Option Value} {B newId initId : String}

/-- Exception.__init__(e, v), called by hand -/
theorem init_again {h : Heap} {g : Array GenState} {d : Drawn} {tk : Nat} {os : OsState} {e t : Addr} {rest : List Value} {Q : Value → Shared → Prop} (F : ExcBaseFacts B newId initId bm)
    (hC : h.get? C = some (excClassObj nm q C N bs bm hdct sn sub ab col dd k0 k1 k2 k3 k5 newId)) (he : h.get? e = some { cls := .ref C, data := .fields #[.ref t, .none, .none, .none, .bool false, .none] })
    (hq : ∀ h' t', (∀ b o, b ≠ e → h.get? b = some o → h'.get? b = some o) → h'.get? e = some { cls := .ref C, data := .fields #[.ref t', .none, .none, .none, .bool false, .none] } → Q .none ⟨h', g, d, tk, os⟩) (hrest : rest.length ≤ sizeLine) :
    wpAny (model prog w) A (call (.builtin initId) (.ref e :: rest)) Q E ⟨h, g, d, tk, os⟩ := by
  refine wpAny_call (codeAny_call_builtin F.init.plain F.initEntry (wpAny_check_init_sub F hC he rfl ?_))
  have he₁ := Heap.get?_push_of_some { cls := .type "tuple", data := .seq rest.toArray } he
  wp_walk
  refine hq _ h.objs.size (fun b o hb ho => ?_) ?_
  · rw [Heap.get?_update_other _ _ (Ne.symm hb)]
    exact Heap.get?_push_of_some _ ho
  · rw [Heap.get?_update_self _ he₁ rfl]
    rfl

theorem raiseStmt_dict {s : Shared} {x : Sem Value} {Q : Flow → Shared → Prop} (hbase : bm.contains (.type "BaseException") = true) (hh : A.handled = none)
    (h : wpAny (model prog w) A x (fun v s₁ => ∃ e t D, v = .ref e ∧ s₁.heap.get? C = some (excClassObj nm q C N bs bm hdct sn sub ab col dd k0 k1 k2 k3 k5 newId) ∧
      s₁.heap.get? e = some { cls := .ref C, dict := some D, data := .fields #[.ref t, .none, .none, .none, .bool false, .none] } ∧ E (.ref e) s₁) E s) :
    wpAny (model prog w) A (raiseStmt env (some x) none) Q E s := by
  have hcB : (Value.ref C :: bm).contains (.type "BaseException") = true := by rw [List.contains_cons, hbase, Bool.or_true]
  unfold raiseStmt
  refine wpAny_bind (wpAny_mono h (fun v s₁ h₁ => ?_) fun _ _ x => x)
  obtain ⟨e, t, D, rfl, hC, he, hE⟩ := h₁
  obtain ⟨hp, g, d, tk, os⟩ := s₁
  repeat (first | with_reducible refine wpAny_loadPart_at he ?_ | with_reducible refine wpAny_loadPart_at hC ?_ | (with_reducible refine wpAny_isSubtype_exc hC ?_; rw [hcB]) | wp_step)
  exact wpAny_raiseNew_none hh hE
end
end Mine
end
section
open PySem PySem.W PyProof.Rows PySem.Calls PySem.SeqAt
namespace Mine

/-- what a raise may touch: slots of the frames, and the objects of X -/
structure Mv (S : List Addr) (X : Addr → Prop) (h h' : Heap) : Prop where
  keep : ∀ b o, ¬ X b → b ∉ S → h.get? b = some o → h'.get? b = some o
  slot : ∀ b o, ¬ X b → h.get? b = some o → ∃ sl, h'.get? b = some { o with slots := sl }
theorem Mv.trans {S S' : List Addr} {X Y : Addr → Prop} {h h1 h2 : Heap} (x : Mv S X h h1) (y : Mv S' Y h1 h2) : Mv (S ++ S') (fun b => X b ∨ Y b) h h2 :=
  ⟨fun b o hx hs e => y.keep b o (fun z => hx (.inr z)) (fun z => hs (List.mem_append_right _ z)) (x.keep b o (fun z => hx (.inl z)) (fun z => hs (List.mem_append_left _ z)) e),
   fun b o hx e => by
    obtain ⟨sl, e1⟩ := x.slot b o (fun z => hx (.inl z)) e
    obtain ⟨sl', e2⟩ := y.slot b _ (fun z => hx (.inr z)) e1
    exact ⟨sl', e2⟩⟩
theorem Mv.mono {S S' : List Addr} {X Y : Addr → Prop} {h h1 : Heap} (x : Mv S X h h1) (hS : ∀ b ∈ S, b ∈ S') (hX : ∀ b, X b → Y b) : Mv S' Y h h1 :=
  ⟨fun b o hx hs e => x.keep b o (fun z => hx (hX b z)) (fun z => hs (hS b z)) e, fun b o hx e => x.slot b o (fun z => hx (hX b z)) e⟩

/-- an exception on its way: its dict, its last traceback entry -/
noncomputable def XS (C e D T : Addr) (fl : Value) (h : Heap) : Prop :=
  ∃ oe vs oT ts, h.get? e = some oe ∧ oe.cls = .ref C ∧ oe.dict = some D ∧ oe.data = .fields vs ∧ vs[1]? = some (.ref T) ∧ T ≠ e ∧ h.get? T = some oT ∧ oT.data = .fields ts ∧ ts[3]? = some fl

theorem dict_mapFields (f : Array Value → Array Value) (o : Obj) : (Obj.mapFields f o).dict = o.dict := by
  obtain ⟨c, d, data, sl⟩ := o
  cases data <;> rfl

noncomputable def FF (h : Heap) (l : List Env) : Prop := h.FunFrames default l
theorem FF.mv {S : List Addr} {X : Addr → Prop} {h h' : Heap} (m : Mv S X h h') {l : List Env} (f : FF h l) (hX : ∀ env ∈ l, ∀ L, env.frame = some L → ¬ X L) : FF h' l := by
  induction l with
  | nil => trivial
  | cons env rest ih =>
    obtain ⟨hk, ⟨L, o, hf, hn, ho, hd⟩, hr⟩ := f
    obtain ⟨sl, e⟩ := m.slot L o (hX env (List.mem_cons_self ..) L hf) ho
    exact ⟨hk, ⟨L, _, hf, hn, e, hd⟩, ih hr fun env' h' => hX env' (List.mem_cons_of_mem _ h')⟩

section
variable {M : Model} {A : Around} {E : Value → Shared → Prop} {s : Shared}

theorem entry_dict {env : Env} {outer : List Env} {L e C D : Addr} {oe : Obj} {vs : Array Value} {head : Value} {hadNext : Bool} {Q : Unit → Shared → Prop}
    (hfr : A.frames = some (env :: outer)) (hl : FF s.heap (env :: outer)) (hf : env.frame = some L)
    (he : s.heap.get? e = some oe) (hc : oe.cls = .ref C) (hD : oe.dict = some D) (hd : oe.data = .fields vs) (hsz : 1 < vs.size)
    (h : ∀ h' T, Mv ((env :: outer).filterMap (·.frame)) (fun b => b = e) s.heap h' → XS C e D T (rawInt L) h' → s.heap.get? T = none → Q () { s with heap := h' }) :
    wpAny M A (do let a ← frameOf env; let pl ← entryPlaceOf L hadNext; let b ← EntryCells.newEntry head a .none (rawInt L) .none pl; setField (.ref e) 1 b) Q E s := by
  have hene : e ∉ (env :: outer).filterMap (·.frame) := fun hm => by
    obtain ⟨_, o, ho, hnf⟩ := Heap.FunFrames.mem hl hm
    rw [he] at ho; injection ho with ho; subst ho; exact hnf vs hd
  refine wpAny_bind (wpAny_frameOf_fun hfr hl hf fun h₁ hs₁ => ?_)
  refine wpAny_bind (wpAny_entryPlaceOf fun pl hpl => ?_)
  unfold EntryCells.newEntry newFields
  refine wpAny_bind (wpAny_newObj_type ?_ (hpl.sizeOk5 _ _ _ _ _))
  have he₁ : h₁.get? e = some oe := (hs₁.2.1 e hene).trans he
  have hTe : h₁.objs.size ≠ e := Nat.ne_of_gt (Heap.lt_size he₁)
  have hd₃ := Obj.data_mapFields hd (·.setIfInBounds 1 (Value.ref h₁.objs.size))
  generalize htb : ({ cls := .type "traceback", dict := none, data := .fields ([head, .ref L, .none, rawInt L, .none] ++ (if pl.isEmpty then List.replicate 6 Value.none else pl)).toArray } : Obj) = tb
  have htd : ∃ ts, tb.data = .fields ts ∧ ts[3]? = some (rawInt L) := by
    subst htb
    exact ⟨_, rfl, by first | (simp; done) | (rcases hpl with rfl | ⟨_, _, _, _, _, _, _, rfl⟩ <;> simp)⟩
  have he₂ : (h₁.push tb).get? e = some oe := Heap.get?_push_of_some _ he₁
  refine wpAny_setField he₂ hd hsz (h _ h₁.objs.size ⟨fun b o hb hs e1 => ?_, fun b o hb e1 => ?_⟩ ?_ ?_)
  · rw [Heap.get?_update_other _ _ (Ne.symm hb)]
    exact Heap.get?_push_of_some _ ((hs₁.2.1 b hs).trans e1)
  · obtain ⟨sl, e2⟩ := hs₁.2.2 b o e1
    refine ⟨sl, ?_⟩
    rw [Heap.get?_update_other _ _ (Ne.symm hb)]
    exact Heap.get?_push_of_some _ e2
  · obtain ⟨ts, t1, t2⟩ := htd
    refine ⟨_, _, tb, ts, Heap.get?_update_self _ he₂ (Obj.isFreed_of_fields hd₃), ?_, ?_, hd₃, by simp [hsz], hTe, ?_, t1, t2⟩
    · rw [Obj.cls_mapFields]; exact hc
    · rw [dict_mapFields]; exact hD
    · rw [Heap.get?_update_other _ _ (Ne.symm hTe)]
      exact Heap.get?_push_size h₁ (by rw [← htb]; rfl)
  · have := hs₁.1
    rw [this]; exact fresh_size _

theorem setFlight_dict {e C D T : Addr} {fl : Value} {Q : Unit → Shared → Prop} (x : XS C e D T fl s.heap)
    (h : ∀ h', Mv [] (fun b => b = T) s.heap h' → XS C e D T .none h' → Q () { s with heap := h' }) : wpAny M A (setFlight (.ref e) none) Q E s := by
  obtain ⟨oe, vs, oT, ts, he, hc, hD, hd, h1, hTe, hT, hdT, h3⟩ := x
  have hsz3 : 3 < ts.size := (Array.getElem?_eq_some_iff.mp h3).1
  unfold setFlight
  refine wpAny_bind (wpAny_field he hd h1 ?_)
  rw [if_pos (show (Value.ref T != Value.none) = true from by simp)]
  refine wpAny_setField hT hdT hsz3 (h _ ⟨fun b o hb _ e1 => (Heap.get?_update_other _ _ (Ne.symm hb)).trans e1, fun b o hb e1 => ⟨o.slots, (Heap.get?_update_other _ _ (Ne.symm hb)).trans e1⟩⟩ ?_)
  exact ⟨oe, vs, _, _, (Heap.get?_update_other _ _ hTe).trans he, hc, hD, hd, h1, hTe, Heap.get?_update_self _ hT (Obj.isFreed_of_fields (Obj.data_mapFields hdT _)), Obj.data_mapFields hdT _, by simp [hsz3]⟩

/-- the frame in which it was raised is left -/
theorem leaving_dict {env : Env} {outer : List Env} {L e C D : Addr} {oe : Obj} {vs : Array Value} {Q : Unit → Shared → Prop}
    (hfr : A.frames = some (env :: outer)) (hl : FF s.heap (env :: outer)) (hf : env.frame = some L)
    (he : s.heap.get? e = some oe) (hc : oe.cls = .ref C) (hD : oe.dict = some D) (hd : oe.data = .fields vs) (h1 : vs[1]? = some .none)
    (h : ∀ h' T, Mv ((env :: outer).filterMap (·.frame)) (fun b => b = e ∨ b = T) s.heap h' → XS C e D T .none h' → s.heap.get? T = none → Q () { s with heap := h' }) : wpAny M A (leaving env (.ref e)) Q E s := by
  unfold leaving noteFrame
  simp only [hf]
  refine wpAny_bind (wpAny_bind (wpAny_field he hd h1 ?_))
  rw [if_neg (by decide)]
  refine entry_dict hfr hl hf he hc hD hd (Array.getElem?_eq_some_iff.mp h1).1 fun h' T m x hT => ?_
  refine setFlight_dict x fun h'' m' x' => h h'' T ?_ x' hT
  exact (m.trans m').mono (fun b hb => by simpa using hb) (fun b hb => hb)

/-- the frame that catches notes it -/
theorem note_dict {env : Env} {outer : List Env} {L e C D T : Addr} {Q : Unit → Shared → Prop}
    (hfr : A.frames = some (env :: outer)) (hl : FF s.heap (env :: outer)) (hf : env.frame = some L) (x : XS C e D T .none s.heap)
    (h : ∀ h' T', Mv ((env :: outer).filterMap (·.frame)) (fun b => b = T ∨ b = e) s.heap h' → XS C e D T' (rawInt L) h' → s.heap.get? T' = none → Q () { s with heap := h' }) : wpAny M A (noteFrame (.ref e) env) Q E s := by
  obtain ⟨oe, vs, oT, ts, he, hc, hD, hd, h1, hTe, hT, hdT, h3⟩ := x
  unfold noteFrame
  simp only [hf]
  refine wpAny_bind (wpAny_field he hd h1 ?_)
  rw [if_pos (show (Value.ref T != Value.none) = true from by simp)]
  refine wpAny_bind (wpAny_field hT hdT h3 ?_)
  rw [if_neg (show ¬ ((Value.none == rawInt L) = true) from by simp [rawInt])]
  refine wpAny_bind (wpAny_setField hT hdT (Array.getElem?_eq_some_iff.mp h3).1 ?_)
  have m0 : Mv [] (fun b => b = T) s.heap (s.heap.update T (Obj.mapFields (·.setIfInBounds 3 Value.none))) := ⟨fun b o hb _ e1 => (Heap.get?_update_other _ _ (Ne.symm hb)).trans e1, fun b o hb e1 => ⟨o.slots, (Heap.get?_update_other _ _ (Ne.symm hb)).trans e1⟩⟩
  have hfT : ∀ env' ∈ (env :: outer), ∀ L', env'.frame = some L' → ¬ L' = T := fun env' hm L' hf' e => by
    obtain ⟨_, o, ho, hnf⟩ := Heap.FunFrames.mem hl (List.mem_filterMap.mpr ⟨env', hm, hf'⟩)
    rw [e, hT] at ho; cases ho; exact hnf ts hdT
  refine entry_dict (s := { s with heap := s.heap.update T (Obj.mapFields (·.setIfInBounds 3 Value.none)) }) hfr (hl.mv m0 hfT) hf ((Heap.get?_update_other _ _ hTe).trans he) hc hD hd (Array.getElem?_eq_some_iff.mp h1).1 fun h' T' m x hT' => ?_
  refine h h' T' ((m0.trans m).mono (fun b hb => by simpa using hb) (fun b hb => hb)) x ?_
  cases q : s.heap.get? T' with
  | none => rfl
  | some o =>
    by_cases c : T' = T
    · subst c
      have : (s.heap.update T' (Obj.mapFields (·.setIfInBounds 3 Value.none))).get? T' ≠ none := by
        rw [Heap.get?_update_self _ hT (Obj.isFreed_of_fields (Obj.data_mapFields hdT _))]; exact fun z => nomatch z
      exact absurd hT' this
    · have := m0.keep T' o c (by simp) q
      rw [this] at hT'; cases hT'
end
end Mine
end
section
open PySem PySem.W PyProof.Rows PySem.Calls PySem.SeqAt PySem.Builtin PySem.Builtin.ObjectAttr
namespace Mine

section
variable {prog : Program} {w : World} {A : Around} {E : Value → Shared → Prop} {h : Heap} {g : Array GenState} {d : Drawn} {t : Nat} {os : OsState}
variable {nm q : Str} {C N x : Addr} {bs bm : List Value} {sn : List Str} {sub : List Value} {ab : Bool} {col : Option Bool} {dd : Option Addr} {k0 k1 k2 k3 k5 : Option Value} {B newId sa owner : String}
  {mN : Str → Option Value} {name : Str} {v : Value}

/-- the first field of an exception: its dict is new -/
theorem first_entry {tk : Tok} {vs : Array Value} {Q : Fin → Shared → Prop} (SF : StoreFacts B bm sa owner)
    (hC : h.get? C = some (excClassObj nm q C N bs bm true sn sub ab col dd k0 k1 k2 k3 k5 newId)) (hn : h.Ns N mN) (hna : mN name = none)
    (hB : typeLookup (.type B) name = pure none) (hx : h.get? x = some { cls := .ref C, data := .fields vs })
    (hq : ∀ h' tk' D, h.get? D = none → D ≠ x → h'.get? x = some { cls := .ref C, dict := some D, data := .fields vs } → h'.Ns1 D (fun y => if y = name then some v else none) →
      (∀ b o, b ≠ x → h.get? b = some o → h'.get? b = some o) → Q (.done (.ret .none)) ⟨h', g, d, tk', os⟩) :
    wpAny (model prog w) A (Builtin.«object.__setattr__» ⟨[.ref x, .str name tk, v], []⟩) Q E ⟨h, g, d, t, os⟩ := by
  have hpass := SF.passes (.ref x)
  obtain ⟨o, ho, hc, hdn, hdat, hsl⟩ : ∃ o : Obj, h.get? x = some o ∧ o.cls = .ref C ∧ o.dict = none ∧ o.data = .fields vs ∧ o = { cls := .ref C, data := .fields vs } := ⟨_, hx, rfl, rfl, rfl, rfl⟩
  have hnc : ∀ c, o.data ≠ .cls c := fun c e => by rw [hdat] at e; cases e
  have hfull : ({ cls := o.cls, dict := some h.objs.size, data := o.data, slots := o.slots } : Obj) = { cls := .ref C, dict := some h.objs.size, data := .fields vs } := by rw [hsl]
  clear hsl hx
  have hx := ho
  unfold Builtin.«object.__setattr__»
  repeat (first | rw [refuse_eq] | (rw [refuseLoop_ref, hpass]) | (with_reducible refine wpAny_loadPart_at hx ?_; rw [hc]) | with_reducible refine wpAny_mroOf_exc hC ?_ | (with_reducible refine wpAny_typeLookup_exc hC hn SF.mro hB ?_; rw [hna]) | wp_step)
  rw [hdn, if_neg (by simp [typeHasDict])]
  split
  · rename_i hcd
    cases hcd
  split
  · rename_i c hcd
    exact absurd hcd (hnc c)
  · have hx₁ : (h.push { cls := .type "dict", data := .dict #[] }).get? x = some o := Heap.get?_push_of_some _ hx
    have hxs : x ≠ h.objs.size := Nat.ne_of_lt (Heap.lt_size hx)
    refine wpAny_bind (wpAny_alloc' ?_)
    refine wpAny_bind (wpAny_update' hx₁ ?_)
    refine wpAny_pure ?_
    have hgd : ((h.push { cls := .type "dict", data := .dict #[] }).update x fun o => { cls := o.cls, dict := some h.objs.size, data := o.data, slots := o.slots }).get? h.objs.size
        = some { cls := .type "dict", data := .dict #[] } :=
      (Heap.get?_update_ne _ _ _ _ hxs.symm).trans (Heap.get?_push_at rfl rfl)
    have hnd : ((h.push { cls := .type "dict", data := .dict #[] }).update x fun o => { cls := o.cls, dict := some h.objs.size, data := o.data, slots := o.slots }).Ns h.objs.size (fun _ => none) :=
      ⟨_, #[], _, hgd, rfl, fun e he => absurd he (by simp), fun _ => rfl⟩
    show wpAny _ _ (storeInDict h.objs.size (.str name tk) name v) _ _ _
    unfold storeInDict newKeyGuard
    refine wpAny_bind (wpAny_pure (wpAny_bind (wpAny_nsSet1 (Heap.Ns1.of_empty hnd) fun h' hn' hs => ?_)))
    obtain ⟨oD, esD, epD, hoD, hdD, hcD⟩ := hn'.count (Within.cons name v Within.nil)
    refine wpAny_bind (wpAny_lookBehind hoD (by rw [hdD]; exact pastItsLine_dict (Nat.le_trans hcD (by rw [List.length_cons, List.length_nil, sizeLine_eq]; omega))) ?_)
    wp_walk
    have hx' : h'.get? x = some { cls := o.cls, dict := some h.objs.size, data := o.data, slots := o.slots } := by
      refine (hs.2 x hxs).trans (Heap.get?_update_self _ hx₁ ?_)
      have hfr := (Heap.get?_some_iff.mp hx).2
      obtain ⟨oc, od, odt, osl⟩ := o
      cases odt <;> first | rfl | exact hfr
    rw [hfull] at hx'
    refine hq h' _ h.objs.size (fresh_size _) hxs.symm hx' hn' fun b ob hbx hb => ?_
    exact (hs.2 b (Nat.ne_of_lt (Heap.lt_size hb))).trans ((Heap.get?_update_ne _ _ _ _ hbx).trans (Heap.get?_push_of_some _ hb))

theorem first_attr {vs : Array Value} {Q : Unit → Shared → Prop} (SF : StoreFacts B bm sa owner)
    (hC : h.get? C = some (excClassObj nm q C N bs bm true sn sub ab col dd k0 k1 k2 k3 k5 newId)) (hn : h.Ns N mN) (hns : mN "__setattr__" = none) (hna : mN name = none)
    (hB : typeLookup (.type B) name = pure none) (hx : h.get? x = some { cls := .ref C, data := .fields vs })
    (hq : ∀ h' tk' D, h.get? D = none → D ≠ x → h'.get? x = some { cls := .ref C, dict := some D, data := .fields vs } → h'.Ns1 D (fun y => if y = name then some v else none) →
      (∀ b o, b ≠ x → h.get? b = some o → h'.get? b = some o) → Q () ⟨h', g, d, tk', os⟩) :
    wpAny (model prog w) A (setAttr (.ref x) name v) Q E ⟨h, g, d, t, os⟩ := by
  have f3 := SF.slot.bind (.ref x)
  unfold setAttr callSpecial? specialOf
  repeat (any_goals (first | assumption | (with_reducible refine wpAny_loadPart_at hx ?_) | (with_reducible refine wpAny_typeLookup_exc hC hn SF.mro SF.slot.lookup ?_; rw [hns]) | wp_step))
  refine codeAny_call_builtin SF.slot.plain SF.entry (wpAny_check_sa SF hC hx rfl (first_entry SF hC hn hna hB hx fun h' tk' D h1 h2 h3 h4 h5 => ?_))
  repeat (any_goals (first | assumption | wp_step))
  exact hq h' tk' D h1 h2 h3 h4 h5
end

theorem Room.under {n : Nat} {A : Around} (ro : Room (n + 1) A) {c : Addr} {rest : List Value} : Room n (A.under (.builtin "type.__call__" ⟨.ref c :: rest, []⟩)) := by
  have e1 : (A.under (.builtin "type.__call__" ⟨.ref c :: rest, []⟩)).handled = A.handled := by first | rfl | simp [Around.under, Code.cUnits, Code.frames, Code.isFrame]
  have w1 : (Code.builtin "type.__call__" ⟨.ref c :: rest, []⟩).weight ≤ 1 := by first | exact Nat.le_of_eq rfl | exact Nat.le_of_ble_eq_true rfl
  have w2 : (Code.builtin "type.__call__" ⟨.ref c :: rest, []⟩).cUnits ≤ 1 := by first | exact Nat.le_of_eq rfl | exact Nat.le_of_ble_eq_true rfl
  have e2 : (A.under (.builtin "type.__call__" ⟨.ref c :: rest, []⟩)).depth ≤ A.depth + 1 := by
    show A.depth + _ ≤ _
    omega
  have e3 : (A.under (.builtin "type.__call__" ⟨.ref c :: rest, []⟩)).units ≤ A.units + 1 := by
    show A.units + _ ≤ _
    omega
  exact ⟨e1.trans ro.hh, by have := ro.dep; omega, by have := ro.un; omega⟩

theorem BIN.adds {C : Cx} {a b : Str} (hsz : a.length + b.length ≤ sizeLine) : BIN C .Add (.str a) (.str b) (.str (a ++ b)) := by
  intro A s F _ _ le va vb ra rb Q E hq
  obtain ⟨t, rfl⟩ := (by unfold Rep at ra; exact ra : ∃ t, va = .str a t)
  obtain ⟨u, rfl⟩ := (by unfold Rep at rb; exact rb : ∃ t, vb = .str b t)
  exact PyProof.Rows.add_str (fun t' tk => hq _ F s.heap tk (Ext.refl le) rep_str) hsz

/-- things that nobody here knows of have turned -/
theorem Fst.off {C : Cx} {G F0 F : PM} {env : Env} {sc : Scope} {r : List (Str × Sl)} {h h' : Heap} (S : Fst C G F0 env sc r F h) (X : Addr → Prop) (hX : ∀ b, X b → F b = none ∧ G b = none) (hl : ¬ X env.locals) (hc : ∀ y c, env.cells.lookup y = some c → ¬ X c)
    (hown : ∀ y ds, ¬ LK r y (.own ds)) (hk : ∀ b o, ¬ X b → h.get? b = some o → h'.get? b = some o) : Fst C G F0 env sc r F h' := by
  have vk : ∀ {y : Str} {v : Value}, VarAt env h y v → VarAt env h' y v := fun hv => by
    rcases hv with ⟨e, m, hn, hm⟩ | ⟨e, c, hc', o, ho, hd⟩
    · exact .inl ⟨e, m, hn.at' fun o e => hk _ o hl e, hm⟩
    · exact .inr ⟨e, c, hc', o, hk _ _ (hc _ _ hc') ho, hd⟩
  refine ⟨S.ok, ⟨S.lt.base, fun b o e => hk b o (fun z => by rw [(hX b z).1] at e; cases e) (S.lt.le b o e), fun b o e => hk b o (fun z => by rw [(hX b z).2] at e; cases e) (S.lt.keep b o e), S.lt.up, S.lt.new⟩, ?_, fun y c hc' => ?_, S.apart, S.hasc, fun y d q => ?_, ?_⟩
  · obtain ⟨p, q, m, hn⟩ := S.loc
    exact ⟨p, q, m, hn.at' fun o e => hk _ o hl e⟩
  · obtain ⟨p, q, v, o, ho, hd⟩ := S.cell y c hc'
    exact ⟨p, q, v, o, hk _ _ (hc y c hc') ho, hd⟩
  · obtain ⟨v, p, q⟩ := S.vals y d q
    exact ⟨v, vk p, q⟩
  · exact ⟨fun _ => 0, fun y ds k => absurd k (hown y ds), fun y z ds es k => absurd k (hown y ds)⟩
end Mine
end
section
open PySem PySem.W PyProof.Rows PySem.Calls PySem.SeqAt
namespace Mine

theorem enter {C : Cx} {n : Nat} {f : Addr} {fd : FuncData} {body : List Stmt} {names : List Str} {ds : List V} (hf : FnAt C f fd body)
    (hbind : ∀ vs : List Value, vs.length = names.length → bindArgs fd ⟨vs, []⟩ = pure (names.zip vs))
    (hkind : ∀ x ∈ names, fd.scope.names.lookup x = some .local ∨ fd.scope.names.lookup x = some .cell) (hnd : names.Nodup) (hlen : ds.length = names.length)
    {A : Around} {s : Shared} {F G : PM} {vs : List Value} (ro : Room (n + 1) A) (base : Sub C.b0.get? F) (le : Sub F s.heap.get?) (hG : Sub G s.heap.get?) (rs : Reps F vs ds) {Q E : Value → Shared → Prop}
    (hb : ∀ (env : Env) (h₁ : Heap) (tk : Nat), Fst C G F env fd.scope (names.zip (ds.map .val)) F h₁ → Sub s.heap.get? h₁.get? → env.frame = some env.locals → s.heap.get? env.locals = none → (∀ y c, env.cells.lookup y = some c → s.heap.get? c = none) →
      wpAny C.M (A.deeper env) (execs body env) (fun fl s' => Q (match fl with | .ret v => v | _ => .none) s') (fun e s' => wpAny C.M (A.deeper env) (leaving env e) (fun _ s'' => E e s'') (fun e' s'' => E e' s'') s') { s with heap := h₁, toks := tk }) :
    wpAny C.M A (call (.ref f) vs) Q E s := by
  obtain ⟨o, ho, hdat⟩ := hf.at_
  have keep0 : Sub C.b0.get? s.heap.get? := base.trans le
  have hvl : vs.length = names.length := rs.len.trans hlen
  have hcs : ∀ x, fd.scope.names.lookup x = some .cell → ∀ k, ((cellsFrom k fd.scope.names []).lookup x).isSome = true := fun x hx k => cellsFrom_some fd.scope.names k [] (.inl hx)
  refine wpAny_call (codeAny_call_cells ro.depLt (keep0 _ _ ho) hdat (C.lim.keeps keep0) (hf.code.keeps keep0) hf.body (hbind vs hvl) hf.clo (fun x hx => ?_) (fun s₁ X => ?_) hf.co hf.gen hf.kind)
  · have hx' := (List.of_mem_zip hx).1
    exact (hkind x.1 hx').imp id fun h => ⟨h, hcs _ h _⟩
  · have henv : EnvOk (callEnvC fd s.heap.objs.size f) fd.scope := ⟨rfl, hf.kind, hf.gl, hf.bt⟩
    obtain ⟨h₁, tk, rfl, _⟩ := X.done
    have hk₁ := X.toInCall.keep
    have fr : ∀ a, s.heap.objs.size ≤ a → s.heap.get? a = none := fun a ha => Heap.get?_none_of_le ha
    have gn : ∀ b, s.heap.get? b = none → G b = none := fun b hb => by
      cases q : G b with
      | none => rfl
      | some o => rw [hG b o q] at hb; cases hb
    have S : Fst C G F (callEnvC fd s.heap.objs.size f) fd.scope (names.zip (ds.map .val)) F h₁ := by
      refine ⟨henv, ⟨base, le.trans hk₁, hG.trans hk₁, Sub.refl _, fun _ e ne => absurd e ne⟩, ⟨none_of_le le (fresh_size _), gn _ (fresh_size _), _, X.toInCall.ns⟩, fun y c hc => ?_, fun y z c h1 h2 => name_of_addr X.apart (mem_of_lookup h1) (mem_of_lookup h2), fun x hx => hcs x hx _, fun x e k => ?_, ?_⟩
      · have hg := fr c (Nat.le_of_lt (X.above y c (mem_of_lookup hc)))
        exact ⟨none_of_le le hg, gn _ hg, _, X.cell y c hc⟩
      · obtain ⟨v, d', h1, h2, h3⟩ := zip_slots rs k
        cases h2
        refine ⟨v, ?_, h3⟩
        have hn := nodup_zip (vs := vs) hnd
        rcases hkind x (List.of_mem_zip h1).1 with hkx | hkx
        · exact .inl ⟨hkx, _, X.toInCall.ns, bindL_get hkx h1 hn⟩
        · obtain ⟨c, hc⟩ := Option.isSome_iff_exists.mp (hcs x hkx (s.heap.objs.size + 1))
          refine .inr ⟨.inl hkx, c, hc, ?_⟩
          have := X.cell x c hc
          rw [bindC_get hkx h1 hn] at this
          exact this
      · refine ⟨fun _ => 0, fun y es k => ?_, fun y z es _ k _ _ => ?_⟩
        · obtain ⟨_, d', _, h2, _⟩ := zip_slots rs k; cases h2
        · obtain ⟨_, d', _, h2, _⟩ := zip_slots rs k; cases h2
    exact hb _ _ _ S hk₁ rfl (fresh_size _) fun y c hc => fr c (Nat.le_of_lt (X.above y c (mem_of_lookup hc)))

section
variable {prog : Program} {w : World} {A : Around} {E : Value → Shared → Prop} {s : Shared} {K : Frag} {name : Str} {v : Value}
/-- a method read off a built-in class -/
theorem getm_type {T : String} {pl : Sem Bool} {Q : Value × List Value → Shared → Prop} (X : K.In s.heap) (ht : typeOf (.type T) = pure (.type "type")) (hs : Manifest.isStub T = false)
    (e : findCls K (.type T) (.type "type") name = some (.val v)) (hh : handedIn v = true) (h : Q (v, []) { s with toks := s.toks + 1 }) : wpAny (model prog w) A (getMethod (.type T) name pl) Q E s := by
  have L0 : Looks (model prog w) s.heap (typeOf (.type T)) (.type "type") := Looks.of_pure ht
  have hg : findIn K (.type "type") "__getattribute__" = some (some (.builtin "type.__getattribute__")) := type_tga
  have LO : Looks (model prog w) s.heap (opaqueClassAbove (.type T)) none := Looks.of_pure (by unfold opaqueClassAbove; dsimp only; rw [hs]; rfl)
  unfold getMethod specialOf
  refine wpAny_bind (wpAny_bind (L0.here ((looks_findIn X hg).here ?_)))
  dsimp only
  rw [if_pos canon_tga]
  refine wpAny_bind (wpAny_mono (Q := fun v => Q (v, [])) (E := E) ?_ (fun _ _ z => wpAny_pure z) fun _ _ z => z)
  refine cls_open X LO L0 hg (looks_hook X (r := none) (by rfl)) (by show subIn K _ _ = _; rfl) e
    (wpAny_pure (by show wpAny _ _ (handedOut v) _ _ _; rw [handedOut_of hh]; exact wpAny_pure h))
end
end Mine
end
section
open PySem PySem.W PyProof.Rows PySem.Calls PySem.SeqAt
namespace Mine
section
variable {prog : Program} {w : World} {A : Around} {E : Value → Shared → Prop} {s : Shared} {env : Env}
variable {nm q : Str} {C N : Addr} {bs bm : List Value} {hdct : Bool} {sn : List Str} {sub : List Value} {ab : Bool} {col : Option Bool} {dd : Option Addr} {k0 k1 k2 k3 k5 : Option Value} {B newId initId : String}

/-- raise C(..) where C has an __init__ that lays fields -/
theorem Raise_init (F : ExcBaseFacts B newId initId bm) {mN : Str → Option Value} {x : Str} {np cpos pos : Pos} {e₀ : Expr} {rest : List Expr} {fI : Addr} {oI : Obj} {Q : Flow → Shared → Prop} (hh : A.handled = none)
    (he : starEach (e₀ :: rest) env = (false, eval e₀ env) :: starEach rest env) (hplain : (backTo cpos (starEach rest env)).any (·.1) = false)
    (h : wpAny (model prog w) A (eval (.Name x np) env) (fun f s₁ => f = .ref C ∧ wpAny (model prog w) A (spliced (backTo cpos (starEach (e₀ :: rest) env)))
      (fun vs s₂ => vs.length ≤ sizeLine ∧ s₂.heap.get? C = some (excClassObj nm q C N bs bm hdct sn sub ab col dd k0 k1 k2 k3 k5 newId) ∧ s₂.heap.Ns N mN ∧ mN "__init__" = some (.ref fI) ∧ s₂.heap.get? fI = some oI ∧ oI.cls = .type "function" ∧
        ∀ h' e, Heap.MadeExcOf s₂.heap h' e (.ref C) vs → wpAny (model prog w) (A.under (.builtin "type.__call__" ⟨.ref C :: vs, []⟩)) (call (.ref fI) (.ref e :: vs))
          (fun r s' => r = .none ∧ ∃ t D, s'.heap.get? C = some (excClassObj nm q C N bs bm hdct sn sub ab col dd k0 k1 k2 k3 k5 newId) ∧ s'.heap.get? e = some { cls := .ref C, dict := some D, data := .fields #[.ref t, .none, .none, .none, .bool false, .none] } ∧ E (.ref e) s') E { s₂ with heap := h' }) E s₁) E s) :
    wpAny (model prog w) A (exec (.Raise (some (.Call (.Name x np) (e₀ :: rest) [] cpos)) none pos) env) Q E s := by
  show wpAny (model prog w) A (do standAt pos; raiseStmt env (some (do let v ← eval (.Call (.Name x np) (e₀ :: rest) [] cpos) env; standAt pos; pure v)) none) Q E s
  refine wpAny_bind (wpAny_standAt (raiseStmt_dict (C := C) (nm := nm) (q := q) (N := N) (bs := bs) (bm := bm) (hdct := hdct) (sn := sn) (sub := sub) (ab := ab) (col := col) (dd := dd) (k0 := k0) (k1 := k1) (k2 := k2) (k3 := k3) (k5 := k5) (newId := newId) F.hasBase hh ?_))
  refine wpAny_bind (wpAny_mono (wpAny_Call_ofName (wpAny_mono h (fun f s₁ h₁ => ?_) fun _ _ x => x)) (fun v s₃ h₃ => wpAny_bind (wpAny_standAt (wpAny_pure h₃))) fun _ _ x => x)
  obtain ⟨rfl, h₁⟩ := h₁
  have hp : ((false, eval e₀ env) :: backTo cpos (starEach rest env)).any (·.1) = false := by
    show (false || (backTo cpos (starEach rest env)).any (·.1)) = false; rw [hplain]; rfl
  rw [he] at h₁ ⊢
  unfold callWith
  refine wpAny_bind (wpAny_holding (Calls.evalArgs_plain (wpAny_mono h₁ (fun vs s₂ h₂ => wpAny_bind (wpAny_standAt ?_)) fun _ _ x => x)))
  obtain ⟨hlen, hC, hn, hi, hfI, hfc, h₂⟩ := h₂
  obtain ⟨hp', g, d, tk, os⟩ := s₂
  have hp2 : ((backTo cpos ((false, eval e₀ env) :: starEach rest env)).any fun x => x.1) = false := hp
  simp only [hp2]
  refine wpAny_bind (wpAny_keeperOf_exc hC ?_)
  refine wpAny_bind (wpAny_call_exc_init (hrest := hlen) F hC hn hi hfI hfc fun h' e hm => wpAny_mono (h₂ h' e hm) (fun r s' hr => ⟨hr.1, ?_⟩) fun _ _ x => x)
  obtain ⟨_, t, D, h1, h2, h3⟩ := hr
  exact wpAny_bind (wpAny_holding (wpAny_point (wpAny_pure ⟨e, t, D, rfl, h1, h2, h3⟩)))
end
end Mine
end
section
open PySem PySem.W PyProof.Rows PySem.Calls PySem.SeqAt
namespace Mine
section
variable {prog : Program} {w : World} {A : Around} {E : Value → Shared → Prop} {h : Heap} {g : Array GenState} {d : Drawn} {t : Nat} {os : OsState}
variable {nm q : Str} {C N x : Addr} {bs bm : List Value} {sn : List Str} {sub : List Value} {ab : Bool} {col : Option Bool} {dd : Option Addr} {k0 k1 k2 k3 k5 : Option Value} {B newId : String}
  {mN mA : Str → Option Value} {name : Str} {v : Value}

theorem excf_entry {tk : Tok} {Q : Fin → Shared → Prop} (hmro : mroOf (.type B) = pure bm)
    (hC : h.get? C = some (excClassObj nm q C N bs bm true sn sub ab col dd k0 k1 k2 k3 k5 newId)) (hn : h.Ns N mN) (hna : mN name = none)
    (hB : typeLookup (.type B) name = pure none) (I : h.Inst x C mA) (hv : mA name = some v) (hq : Q (.done (.ret v)) ⟨h, g, d, t, os⟩) :
    wpAny (model prog w) A (Builtin.«object.__getattribute__» ⟨[.ref x, .str name tk], []⟩) Q E ⟨h, g, d, t, os⟩ := by
  obtain ⟨o, hx, hc, hnc, hd⟩ := I
  rcases hd with ⟨_, hmA⟩ | ⟨dx, hdx, hne, hns⟩
  · rw [hmA name] at hv; cases hv
  unfold Builtin.«object.__getattribute__»
  repeat (first | (with_reducible refine wpAny_loadPart_at hx ?_; rw [hc]) | (with_reducible refine wpAny_typeLookup_exc hC hn hmro hB ?_; rw [hna]) | wp_step)
  split
  · rename_i c hcd
    exact absurd hcd (hnc c)
  unfold instanceDict
  repeat (first | (with_reducible refine wpAny_loadPart_at hx ?_; rw [hc]) | with_reducible refine wpAny_loadPart_at hC ?_ | wp_step)
  rw [hdx]
  unfold Builtin.ObjectAttr.inDict
  repeat (first | (with_reducible refine wpAny_nsGet hns.ns ?_; rw [hv]) | wp_step)
  exact hq

theorem excf_check {nameV : Value} {M : Model} {o : Obj} {Q : Unit → Shared → Prop} (hbase : bm.contains (.type "BaseException") = true) (hC : h.get? C = some (excClassObj nm q C N bs bm true sn sub ab col dd k0 k1 k2 k3 k5 newId))
    (hx : h.get? x = some o) (hc : o.cls = .ref C) (hq : Q () ⟨h, g, d, t, os⟩) : wpAny M A (checkBuiltinCall "BaseException.__getattribute__" ⟨[.ref x, nameV], []⟩) Q E ⟨h, g, d, t, os⟩ := by
  have hk : builtinKind "BaseException.__getattribute__" = some .slot := by decide +kernel
  have hsplit : splitId "BaseException.__getattribute__" = some ("BaseException", "__getattribute__") := by decide +kernel
  have hcB : (Value.ref C :: bm).contains (.type "BaseException") = true := by rw [List.contains_cons, hbase]; simp
  have ha := PySem.F.args_bexc_ga (.ref x) nameV
  simp only [checkBuiltinCall, hk, hsplit]
  refine wpAny_bind ?_
  · unfold isInstance
    repeat (first | (with_reducible refine wpAny_loadPart_at hx ?_; rw [hc]) | (with_reducible refine wpAny_isSubtype_exc hC ?_; rw [hcB]) | wp_step)
    exact hq

theorem excf_attr {expr : Bool} {Q : Value → Shared → Prop} (FB : ExcAttrBase B bm)
    (hC : h.get? C = some (excClassObj nm q C N bs bm true sn sub ab col dd k0 k1 k2 k3 k5 newId)) (hn : h.Ns N mN) (hng : mN "__getattribute__" = none) (hnh : mN "__getattr__" = none) (hna : mN name = none)
    (hB : typeLookup (.type B) name = pure none) (I : h.Inst x C mA) (hv : mA name = some v) (hh : handedOut v = pure v) (hq : ∀ t', Q v ⟨h, g, d, t', os⟩) :
    wpAny (model prog w) A (getAttr (.ref x) name expr) Q E ⟨h, g, d, t, os⟩ := by
  obtain ⟨o, hx, hc, _⟩ := id I
  have f3 := FB.ga.bind (.ref x)
  have hx0 : (expr && onTheHeap (Value.builtin "BaseException.__getattribute__")) = false := by cases expr <;> rfl
  have hx2 : (Value.builtin "BaseException.__getattribute__" == Value.builtin "object.__getattribute__") = false := by decide +kernel
  have hx1 : (onTheHeap (Value.ref C) && Value.builtin "BaseException.__getattribute__" == Value.builtin "object.__getattribute__") = false := by rw [hx2]; rfl
  unfold getAttr getAttrBy
  repeat (any_goals (first | assumption | (with_reducible refine wpAny_loadPart_at hx ?_; rw [hc]) | (with_reducible refine wpAny_typeLookup_exc hC hn FB.mro FB.ga.lookup ?_; rw [hng]) | (with_reducible refine wpAny_typeLookup_exc hC hn FB.mro FB.noGetattr ?_; rw [hnh]) | wp_step))
  refine codeAny_call_builtin FB.ga.plain PySem.F.entry_bexc_ga (excf_check FB.hasBase hC hx hc (excf_entry FB.mro hC hn hna hB I hv ?_))
  show wpAny _ _ (handedOut v) _ _ _
  rw [hh]
  exact wpAny_pure (hq _)
end

/-- a raise went by: slots of frames, and new objects -/
theorem Fst.mv {C : Cx} {G F0 F : PM} {env : Env} {sc : Scope} {r : List (Str × Sl)} {h h' : Heap} {S : List Addr} {X : Addr → Prop} (T : Fst C G F0 env sc r F h) (m : Mv S X h h') (hX : ∀ b, h.get? b ≠ none → ¬ X b) (hS : ∀ b ∈ S, F b = none ∧ G b = none ∧ ∀ vs k, h.get? b ≠ some (lstO vs k)) : Fst C G F0 env sc r F h' := by
  have some' : ∀ {b : Addr} {o : Obj}, h.get? b = some o → ¬ X b := fun e => hX _ (by rw [e]; exact fun z => nomatch z)
  have nsk : ∀ {m0 : Str → Option Value}, h.Ns env.locals m0 → h'.Ns env.locals m0 := fun ⟨o, es, ep, ho, hd, hm, hf⟩ => by
    obtain ⟨sl, e⟩ := m.slot _ o (some' ho) ho
    exact ⟨_, es, ep, e, hd, hm, hf⟩
  have cek : ∀ {c : Addr} {v : Option Value}, h.IsCell c v → h'.IsCell c v := fun ⟨o, ho, hd⟩ => by
    obtain ⟨sl, e⟩ := m.slot _ o (some' ho) ho
    exact ⟨_, e, hd⟩
  have vk : ∀ {y : Str} {v : Value}, VarAt env h y v → VarAt env h' y v := fun hv => by
    rcases hv with ⟨e, m0, hn, hm⟩ | ⟨e, c, hc', hd⟩
    · exact .inl ⟨e, m0, nsk hn, hm⟩
    · exact .inr ⟨e, c, hc', cek hd⟩
  refine ⟨T.ok, ⟨T.lt.base, fun b o e => ?_, fun b o e => ?_, T.lt.up, T.lt.new⟩, ?_, fun y c hc' => ?_, T.apart, T.hasc, fun y d q => ?_, ?_⟩
  · have e1 := T.lt.le b o e
    exact m.keep b o (some' e1) (fun z => by rw [(hS b z).1] at e; cases e) e1
  · have e1 := T.lt.keep b o e
    exact m.keep b o (some' e1) (fun z => by rw [(hS b z).2.1] at e; cases e) e1
  · obtain ⟨p, q, m0, hn⟩ := T.loc
    exact ⟨p, q, m0, nsk hn⟩
  · obtain ⟨p, q, v, hv⟩ := T.cell y c hc'
    exact ⟨p, q, v, cek hv⟩
  · obtain ⟨v, p, q⟩ := T.vals y d q
    exact ⟨v, vk p, q⟩
  · obtain ⟨oa, o1, o2⟩ := T.own
    refine ⟨oa, fun y ds k => ?_, o2⟩
    obtain ⟨z1, z2, z3, ws, kw, z4, z5, z6⟩ := o1 y ds k
    exact ⟨vk z1, z2, z3, ws, kw, m.keep _ _ (some' z4) (fun z => (hS _ z).2.2 _ _ z4) z4, z5, z6⟩

theorem handler_as {prog : Program} {w : World} {A : Around} {E : Value → Shared → Prop} {s : Shared} {env : Env} {nm q : Str} {C N : Addr} {bs bm : List Value} {hdct : Bool} {sn : List Str} {sub : List Value} {ab : Bool} {col : Option Bool} {dd : Option Addr} {k0 k1 k2 k3 k5 : Option Value} {newId : String}
    {e : Addr} {t : Expr} {n : Str} {b₀ : Stmt} {suite : List Stmt} {pos : Pos} {rest : List ExceptHandler} {Q : Flow → Shared → Prop}
    (hbase : bm.contains (.type "BaseException") = true)
    (h : wpAny (model prog w) (A.mark (some (.ref e))) (eval t env) (fun c s₁ => c = .ref C ∧ s₁.heap.get? C = some (excClassObj nm q C N bs bm hdct sn sub ab col dd k0 k1 k2 k3 k5 newId) ∧ (∃ oe, s₁.heap.get? e = some oe ∧ oe.cls = .ref C) ∧
      wpAny (model prog w) (A.mark (some (.ref e))) (setFlight (.ref e) none) (fun _ s₂ =>
          wpAny (model prog w) (A.mark (some (.ref e))) (storeName env n (.ref e)) (fun _ s₃ =>
            wpAny (model prog w) (A.mark (some (.ref e))) (execs (b₀ :: suite) env)
              (fun f s₄ => wpAny (model prog w) A (do bindName env n .none; unbindBehindTheSuite env n pos) (fun _ s₅ => Q f s₅) E s₄)
              (AsSuiteRaised (model prog w) (A.mark (some (.ref e))) env n pos (notedBy (model prog w) (A.mark (some (.ref e))) env (cameBackBy (model prog w) A env E))) s₃) (notedBy (model prog w) (A.mark (some (.ref e))) env (cameBackBy (model prog w) A env E)) s₂) (notedBy (model prog w) (A.mark (some (.ref e))) env (cameBackBy (model prog w) A env E)) s₁) (notedBy (model prog w) (A.mark (some (.ref e))) env (cameBackBy (model prog w) A env E)) s) :
    wpAny (model prog w) A (handleBy (.ref e) env (.ExceptHandler (some t) (some n) (b₀ :: suite) pos :: rest)) Q E s := by
  refine wpAny_handleBy_cons (codeAny_handlers_test (wpAny_mono h (fun c s₁ h₁ => ?_) fun _ _ y => y)) (by intro q; cases q)
  obtain ⟨rfl, hC, ⟨oe, he, hcls⟩, hk⟩ := h₁
  obtain ⟨hh, g, d, tk, os⟩ := s₁
  exact wpAny_excMatches_sub_self hC he hcls hbase (codeAny_handlers_suite_as hk)
end Mine
end
section
open PySem PySem.W PyProof.Rows PySem.Calls PySem.SeqAt
namespace Mine
theorem Fst.addF {C : Cx} {G F0 F : PM} {env : Env} {sc : Scope} {r : List (Str × Sl)} {h : Heap} {a : Addr} {o : Obj} (S : Fst C G F0 env sc r F h) (ha : h.get? a = some o) (hl : env.locals ≠ a) (hc : ∀ y c, env.cells.lookup y = some c → c ≠ a)
    (hown : ∀ y ds, ¬ LK r y (.own ds)) : Fst C G (F.add a o) env sc r (F.add a o) h := by
  have ne : ∀ b, b ≠ a → (F.add a o) b = F b := fun b hb => by unfold PM.add; rw [if_neg hb]
  have up : Sub F (F.add a o) := fun b ob e => by
    by_cases c : b = a
    · subst c
      have := S.lt.le _ _ e
      rw [ha] at this; cases this
      exact PM.add_self
    · rw [ne b c]; exact e
  refine ⟨S.ok, ⟨S.lt.base.trans up, fun b ob e => ?_, S.lt.keep, Sub.refl _, fun _ e n => absurd e n⟩, ?_, fun y c hc' => ?_, S.apart, S.hasc, fun y d q => ?_, ⟨fun _ => 0, fun y ds k => absurd k (hown y ds), fun y z ds es k => absurd k (hown y ds)⟩⟩
  · by_cases c : b = a
    · subst c
      rw [PM.add_self] at e; cases e; exact ha
    · rw [ne b c] at e; exact S.lt.le _ _ e
  · obtain ⟨p, q, m, hn⟩ := S.loc
    exact ⟨by rw [ne _ hl]; exact p, q, m, hn⟩
  · obtain ⟨p, q, v, hv⟩ := S.cell y c hc'
    exact ⟨by rw [ne _ (hc y c hc')]; exact p, q, v, hv⟩
  · obtain ⟨v, p, q⟩ := S.vals y d q
    exact ⟨v, p, q.mono up⟩

theorem Mv.some {S : List Addr} {X : Addr → Prop} {h h' : Heap} (m : Mv S X h h') {b : Addr} (hX : ¬ X b) (hn : h'.get? b = none) : h.get? b = none := by
  cases q : h.get? b with
  | none => rfl
  | some o =>
    obtain ⟨sl, e⟩ := m.slot b o hX q
    rw [hn] at e; cases e

theorem loadG' {C : Cx} {sc : Scope} {A : Around} {s : Shared} {env : Env} {x : Str} {v : Value} {Q E : Value → Shared → Prop} {pos : Pos} (ok : EnvOk env sc) (hb : Sub C.b0.get? s.heap.get?) (hk : sc.names.lookup x = some .globalImplicit) (hv : C.mg x = some v) (h : Q v s)
    (hd : (x == ("__debug__" : Str)) = false) : wpAny C.M A (eval (.Name x pos) env) Q E s := by
  have hk' : env.kindOf x = some .globalImplicit := by
    unfold Env.kindOf
    rw [ok.is]; exact hk
  refine Name_function_global (by rw [ok.is]; exact ok.fk) hk' (loadGlobal_global (mg := C.mg) ?_ hv h) hd
  rw [ok.gl]; exact C.g.keeps hb

theorem attr_of {M : Model} {A : Around} {E : Value → Shared → Prop} {s : Shared} {env : Env} {x : Str} {np pos : Pos} {name : Str} {Q : Value → Shared → Prop}
    (h : wpAny M A (eval (.Name x np) env) (fun o s₁ => wpAny M A (getAttr o name true) Q E s₁) E s) : wpAny M A (eval (.Attribute (.Name x np) name pos) env) Q E s := by
  show wpAny M A (do let o ← attributeBase (.Name x np) name env (eval (.Name x np) env); standAt pos.atName; let r ← holding [o] (getAttr o name true); letTemporaryGo (.Name x np) o r; pure r) Q E s
  show wpAny M A (do let o ← eval (.Name x np) env; standAt pos.atName; let r ← holding [o] (getAttr o name true); letTemporaryGo (.Name x np) o r; pure r) Q E s
  refine wpAny_bind (wpAny_mono h (fun o s₁ h₁ => wpAny_bind (wpAny_standAt (wpAny_bind (wpAny_holding (wpAny_mono h₁ (fun r s₂ h₂ => ?_) fun _ _ x => x))))) fun _ _ x => x)
  exact wpAny_bind (wpAny_pure (wpAny_pure h₂))
end Mine
end
section
open PySem PySem.W PyProof.Rows PySem.Calls PySem.SeqAt
namespace Mine
theorem room_top (env : Env) : Room 30 (callerA.deeper env) := ⟨rfl, of_decide_eq_true (by rfl), of_decide_eq_true (by rfl)⟩
theorem law_end {C : Cx} {sc : Scope} {body : List Stmt} {nm : Str} {L fa a : Addr} {cd : Value} {s : Shared} {m : Str → Option Value} (hb : EXWs C 30 sc [("script", .val (.raw (.ref a)))] body (.ret (.bool true)))
    (F : Fr C.b0 L s.heap m) (hk : sc.kind = .function) (hsc : sc.names.lookup (Str.ofString "script") = some .local) (hm : m "script" = some (.ref a)) (hL : C.b0.get? L = none) (hcell : ∀ x, sc.names.lookup x ≠ some .cell)
    {Q : Flow → Shared → Prop} {E : Value → Shared → Prop} (hQ : ∀ h' tk', Sub C.b0.get? h'.get? → Q (.ret (.bool true)) { s with heap := h', toks := tk' }) :
    wpAny C.M (callerA.deeper (envOf nm sc L fa cd)) (execs body (envOf nm sc L fa cd)) Q E s := by
  refine hb (envOf nm sc L fa cd) _ s C.b0.get? C.b0.get? C.b0.get? ⟨⟨rfl, hk, rfl, rfl⟩, ⟨Sub.refl _, F.keep, F.keep, Sub.refl _, fun _ e n => absurd e n⟩, ⟨hL, hL, m, F.ns⟩, fun y c h => ?_, fun y z c h => ?_, fun x hx => absurd hx (hcell x), fun x d k => ?_, ?_⟩ (room_top _) ⟨rfl, rfl⟩ Q E fun v F' h' tk' Lt rv => ?_
  · cases h
  · cases h
  · cases k with
    | here => exact ⟨.ref a, .inl ⟨hsc, m, F.ns, hm⟩, by unfold Rep; rfl⟩
    | next _ k => cases k
  · have no : ∀ y ds, ¬ LK [("script", Sl.val (.raw (.ref a)))] y (.own ds) := fun y ds k => by
      cases k with
      | next _ k => cases k
    exact ⟨fun _ => 0, fun y ds k => absurd k (no y ds), fun y z ds es k => absurd k (no y ds)⟩
  · obtain rfl := rv.bool'
    exact hQ h' tk' (Lt.base.trans Lt.le)
end Mine
end
section
open PySem PySem.W PyProof.Rows PySem.Calls PySem.SeqAt
namespace Mine
noncomputable abbrev Bd (C : Cx) : Prop := (heapK C.w.params).In C.b0

theorem nb_abs {C : Cx} (B : Bd C) : C.mg "abs" = none := mg_none_of B C.g (by rfl)
theorem nb_len {C : Cx} (B : Bd C) : C.mg "len" = none := mg_none_of B C.g (by rfl)
theorem nb_max {C : Cx} (B : Bd C) : C.mg "max" = none := mg_none_of B C.g (by rfl)
theorem nb_any {C : Cx} (B : Bd C) : C.mg "any" = none := mg_none_of B C.g (by rfl)
theorem nb_sum {C : Cx} (B : Bd C) : C.mg "sum" = none := mg_none_of B C.g (by rfl)
theorem nb_isinstance {C : Cx} (B : Bd C) : C.mg "isinstance" = none := mg_none_of B C.g (by rfl)
theorem nb_list {C : Cx} (B : Bd C) : C.mg "list" = none := mg_none_of B C.g (by rfl)
theorem nb_int {C : Cx} (B : Bd C) : C.mg "int" = none := mg_none_of B C.g (by rfl)
theorem nb_str {C : Cx} (B : Bd C) : C.mg "str" = none := mg_none_of B C.g (by rfl)
theorem nb_range {C : Cx} (B : Bd C) : C.mg "range" = none := mg_none_of B C.g (by rfl)
theorem nb_reversed {C : Cx} (B : Bd C) : C.mg "reversed" = none := mg_none_of B C.g (by rfl)
theorem nb_enumerate {C : Cx} (B : Bd C) : C.mg "enumerate" = none := mg_none_of B C.g (by rfl)
theorem bb_abs : bootBuiltins "abs" = some (.builtin "abs") := by rfl
theorem bb_len : bootBuiltins "len" = some (.builtin "len") := by rfl
theorem bb_max : bootBuiltins "max" = some (.builtin "max") := by rfl
theorem bb_any : bootBuiltins "any" = some (.builtin "any") := by rfl
theorem bb_sum : bootBuiltins "sum" = some (.builtin "sum") := by rfl
theorem bb_isinstance : bootBuiltins "isinstance" = some (.builtin "isinstance") := by rfl
theorem bb_list : bootBuiltins "list" = some (.type "list") := by rfl
theorem bb_int : bootBuiltins "int" = some (.type "int") := by rfl
theorem bb_str : bootBuiltins "str" = some (.type "str") := by rfl
theorem bb_range : bootBuiltins "range" = some (.type "range") := by rfl
theorem bb_reversed : bootBuiltins "reversed" = some (.type "reversed") := by rfl
theorem bb_enumerate : bootBuiltins "enumerate" = some (.type "enumerate") := by rfl

section
variable {C : Cx} (B : Bd C) {n : Nat} {sc : Scope} {r : List (Str × Sl)} {np pos : Pos} {e : Expr} {es : List Expr} {ds : List V} {d : V}
  (ha : EVs C n sc r (e :: es) ds)
  (he : ∀ env, starEach (e :: es) env = (false, eval e env) :: starEach es env) (hp : ∀ env pos, (backTo pos (starEach es env)).any (·.1) = false)
include B ha he hp
theorem EV.abs (hk : sc.names.lookup (Str.ofString "abs") = some .globalImplicit) (hc : BI C (.builtin "abs") ds d) : EV C n sc r (.Call (.Name "abs" np) (e :: es) [] pos) d := EV.callB hk (nb_abs B) bb_abs ha hc he hp
theorem EV.len (hk : sc.names.lookup (Str.ofString "len") = some .globalImplicit) (hc : BI C (.builtin "len") ds d) : EV C n sc r (.Call (.Name "len" np) (e :: es) [] pos) d := EV.callB hk (nb_len B) bb_len ha hc he hp
theorem EV.max (hk : sc.names.lookup (Str.ofString "max") = some .globalImplicit) (hc : BI C (.builtin "max") ds d) : EV C n sc r (.Call (.Name "max" np) (e :: es) [] pos) d := EV.callB hk (nb_max B) bb_max ha hc he hp
theorem EV.any (hk : sc.names.lookup (Str.ofString "any") = some .globalImplicit) (hc : BI C (.builtin "any") ds d) : EV C n sc r (.Call (.Name "any" np) (e :: es) [] pos) d := EV.callB hk (nb_any B) bb_any ha hc he hp
theorem EV.sum (hk : sc.names.lookup (Str.ofString "sum") = some .globalImplicit) (hc : BI C (.builtin "sum") ds d) : EV C n sc r (.Call (.Name "sum" np) (e :: es) [] pos) d := EV.callB hk (nb_sum B) bb_sum ha hc he hp
theorem EV.listc (hk : sc.names.lookup (Str.ofString "list") = some .globalImplicit) (hc : BI C (.type "list") ds d) : EV C n sc r (.Call (.Name "list" np) (e :: es) [] pos) d := EV.callT hk (nb_list B) bb_list ha hc he hp
theorem EV.intc (hk : sc.names.lookup (Str.ofString "int") = some .globalImplicit) (hc : BI C (.type "int") ds d) : EV C n sc r (.Call (.Name "int" np) (e :: es) [] pos) d := EV.callT hk (nb_int B) bb_int ha hc he hp
end
end Mine
end
section
open PySem PySem.W PyProof.Rows PySem.Calls PySem.SeqAt
namespace Mine
local macro_rules | `(tactic| walk_at "lk") => `(tactic| first | with_reducible exact LK.here | (refine LK.next (by decide) ?_; walk_at "lk"))
local macro_rules | `(tactic| walk_at "upd") => `(tactic| first | with_reducible exact UPD.here | with_reducible exact UPD.nil | (refine' UPD.next (by decide) ?h; (case h => walk_at "upd")))
local macro_rules | `(tactic| walk_at "less") => `(tactic| first | with_reducible exact Less.nil | (refine Less.cons ?_ ?_; (walk_at "lk"); (walk_at "less")))
local macro_rules | `(tactic| walk_at "rf") => `(tactic| first | with_reducible exact RF.nil | (refine' RF.cons (by decide) ?k (by rfl) (by rfl) ?t; (case k => walk_at "lk"); (case t => walk_at "rf")))
local macro_rules | `(tactic| walk_at "loc") => `(tactic| first | exact Or.inl (by rfl) | exact Or.inr (by rfl))
local macro_rules | `(tactic| walk_at "bin") => `(tactic| first | with_reducible exact BIN.add | with_reducible exact BIN.sub | with_reducible exact BIN.subb | with_reducible exact BIN.mulG (by assumption) | with_reducible exact BIN.divG (by assumption) | with_reducible exact BIN.modG (by assumption) | with_reducible exact BIN.powG (by assumption) | exact BIN.adds (by decide +kernel))
local macro_rules | `(tactic| walk_at "cmp") => `(tactic| first | with_reducible exact CMP.eqI | with_reducible exact CMP.neI | with_reducible exact CMP.ltI | with_reducible exact CMP.leI | with_reducible exact CMP.gtI | with_reducible exact CMP.geI | with_reducible exact CMP.neNil noStr_int | with_reducible exact CMP.eqNil noStr_int | with_reducible exact CMP.neNil noStr_ivV | with_reducible exact CMP.neR | with_reducible exact CMP.eqR | with_reducible exact CMP.eqIv | exact CMP.neNil noStr_int | exact CMP.eqNil noStr_int)
local macro_rules | `(tactic| walk_at "item") => `(tactic| first | exact ITEM.t rfl | exact ITEM.p (by assumption) | exact ITEM.m (by assumption) | exact ITEM.l rfl)
local macro_rules | `(tactic| walk_at "evs") => `(tactic| first | with_reducible exact EVs.nil | (refine' EVs.cons ?h1 ?h2; (case h1 => walk_at "ev"); (case h2 => walk_at "evs")))
local macro_rules | `(tactic| walk_at "ev") => `(tactic| first
  | with_reducible exact EV.cint | with_reducible exact EV.cnone | with_reducible exact EV.cbool | with_reducible exact EV.cstr
  | ((with_reducible refine' Sh.name ?g); (case g => (refine' EV.var ?h; (case h => walk_at "lk"))))
  | ((with_reducible refine' Sh.bin ?g); (case g => (refine' EV.bin ?h1 ?h2 ?h3; (case h1 => walk_at "ev"); (case h2 => walk_at "ev"); (case h3 => walk_at "bin"))))
  | ((with_reducible refine' Sh.cmp ?g); (case g => (refine' EV.cmp ?h1 ?h2 ?h3; (case h1 => walk_at "ev"); (case h2 => walk_at "ev"); (case h3 => walk_at "cmp"))))
  | ((with_reducible refine' Sh.neg ?g); (case g => (refine' EV.neg ?h1; (case h1 => walk_at "ev"))))
  | ((with_reducible refine' Sh.tup ?g); (case g => (refine' EV.tuple ?h1 (hl := ?h2); (case h1 => walk_at "evs"); (case h2 => exact of_decide_eq_true (by rfl)))))
  | ((with_reducible refine' Sh.lst ?g); (case g => (refine' EV.list ?h1 (hl := ?h2); (case h1 => walk_at "evs"); (case h2 => exact of_decide_eq_true (by rfl)))))
  | ((with_reducible refine' Sh.sub ?g); (case g => first | (refine' EV.item ?h1 ?h2 ?h3 (by intro _ _; rfl); (case h1 => walk_at "ev"); (case h2 => walk_at "ev"); (case h3 => walk_at "item")) | (refine' EV.ownItem ?h1 ?h2 ?h3; (case h1 => walk_at "lk"); (case h2 => walk_at "ev"); (case h3 => assumption))))
  | ((with_reducible refine' Sh.abs ?g); (case g => (refine' EV.abs (by assumption) ?h1 (by intro _; rfl) (by intro _ _; rfl) (by rfl) ?h2; (case h1 => walk_at "evs"); (case h2 => exact BI.absI))))
  | ((with_reducible refine' Sh.len ?g); (case g => first | (refine' EV.len (by assumption) ?h1 (by intro _; rfl) (by intro _ _; rfl) (by rfl) ?h2; (case h1 => walk_at "evs"); (case h2 => first | with_reducible exact BI.lenM | exact BI.lenL)) | (refine' EV.borrow (ds := List.map _ _) ?k (EV.len (by assumption) ?h1 (by intro _; rfl) (by intro _ _; rfl) (by rfl) BI.lenM) trivial; (case k => walk_at "lk"); (case h1 => walk_at "evs"))))
  | ((with_reducible refine' Sh.max ?g); (case g => (refine' EV.max (by assumption) ?h1 (by intro _; rfl) (by intro _ _; rfl) (by rfl) ?h2; (case h1 => walk_at "evs"); (case h2 => exact BI.max2))))
  | ((with_reducible refine' Sh.list ?g); (case g => (refine' EV.listc (by assumption) ?h1 (by intro _; rfl) (by intro _ _; rfl) (by rfl) ?h2; (case h1 => walk_at "evs"); (case h2 => exact BI.listL))))
  | ((with_reducible refine' Sh.ife ?g); (case g => first | (refine' EV.ifT ?h1 ?h2; (case h1 => walk_at "tst"); (case h2 => walk_at "ev")) | (refine' EV.ifF ?h1 ?h2; (case h1 => walk_at "tst"); (case h2 => walk_at "ev"))))
  | ((with_reducible refine' Sh.call ?g); (case g => (refine' EV.callN (by rfl) ?h1 ?h2 ?h3; (case h1 => walk_at "evs"); (case h2 => assumption); (case h3 => decide)))))
local macro_rules | `(tactic| walk_at "ts") => `(tactic| first
  | ((with_reducible refine' Sh.tcmp ?g); (case g => (refine' TS.cmp ?h1 ?h2 ?h3; (case h1 => walk_at "ev"); (case h2 => walk_at "ev"); (case h3 => walk_at "cmp"))))
  | ((with_reducible refine' Sh.tnot ?g); (case g => (refine' TS.not ?h1; (case h1 => walk_at "ts"))))
  | (refine' TS.val ?h; (case h => walk_at "ev")))
local macro_rules | `(tactic| walk_at "tst") => `(tactic| (refine' TS.conv ?h1 ?h2; (case h1 => walk_at "ts"); (case h2 => first | with_reducible rfl | exact decide_eq_true (by assumption) | exact decide_eq_false (by assumption) | exact decide_eq_true (by omega) | exact decide_eq_false (by omega) | exact bne_iff_ne.mpr (by assumption) | exact beq_iff_eq.mpr (by assumption) | (simp; done) | (simp [*]; done))))
local macro_rules | `(tactic| walk_at "evS") => `(tactic| first | with_reducible exact EVS.nil | (refine' EVS.consV ?h1 ?h2; (case h1 => walk_at "ev"); (case h2 => walk_at "evS")))
local macro_rules | `(tactic| walk_at "bind") => `(tactic| first
  | (intro vs h; match vs, h with | [a], _ => rfl) | (intro vs h; match vs, h with | [a, b], _ => rfl) | (intro vs h; match vs, h with | [a, b, c], _ => rfl))
local macro_rules | `(tactic| walk_at "sw") => `(tactic| (intro env e; cases env; cases e; rfl))
local macro_rules | `(tactic| walk_at "app") => `(tactic| (refine' EXs.cons (EX.appendM ?h1 ?h2 ?h3 ?h4 (by rfl) (by intro _; rfl) (by intro _; rfl) (by decide) (by decide)) ?h5; (case h1 => walk_at "lk"); (case h2 => walk_at "ev"); (case h3 => first | assumption | (unfold cap; omega)); (case h4 => walk_at "upd")))
local macro_rules | `(tactic| walk_at "st") => `(tactic| first
  | ((with_reducible refine Sh.ret ?_); refine' EXs.ret (EX.return ?h); (case h => walk_at "ev"); done)
  | ((with_reducible refine Sh.asg ?_); refine' EXs.cons (EX.assign ?h1 ?h2 ?h3) ?h4; (case h1 => walk_at "ev"); (case h2 => walk_at "upd"); (case h3 => walk_at "loc"))
  | ((with_reducible refine Sh.tt2 ?_); refine' EXs.cons (EX.sw2 ?h1 ?h2 ?h3 ?h4 ?h5 (by intro _; rfl) (by walk_at "sw")) ?h6; (case h1 => walk_at "evS"); (case h2 => walk_at "upd"); (case h3 => walk_at "upd"); (case h4 => walk_at "loc"); (case h5 => walk_at "loc"))
  | ((with_reducible refine Sh.tt2 ?_); refine' EXs.cons (EX.in2 ?h1 ?h2 ?h3 ?h4 ?h5 (by intro _; rfl) (by walk_at "sw")) ?h6; (case h1 => walk_at "evS"); (case h2 => walk_at "upd"); (case h3 => walk_at "upd"); (case h4 => walk_at "loc"); (case h5 => walk_at "loc"))
  | ((with_reducible refine Sh.tn2 ?_); refine' EXs.cons (EX.v2 ?h1 ?h2 ?h3 ?h4 ?h5 (by intro _; rfl) (by walk_at "sw")) ?h6; (case h1 => walk_at "ev"); (case h2 => walk_at "upd"); (case h3 => walk_at "upd"); (case h4 => walk_at "loc"); (case h5 => walk_at "loc"))
  | ((with_reducible refine Sh.tc2 ?_); refine' EXs.cons (EX.v2 ?h1 ?h2 ?h3 ?h4 ?h5 (by intro _; rfl) (by walk_at "sw")) ?h6; (case h1 => walk_at "ev"); (case h2 => walk_at "upd"); (case h3 => walk_at "upd"); (case h4 => walk_at "loc"); (case h5 => walk_at "loc"))
  | ((with_reducible refine Sh.tc3 ?_); refine' EXs.cons (EX.v3 ?h1 ?h2 ?h3 ?h3b ?h4 ?h5 ?h5b (by intro _; rfl) (by walk_at "sw")) ?h6; (case h1 => walk_at "ev"); (case h2 => walk_at "upd"); (case h3 => walk_at "upd"); (case h3b => walk_at "upd"); (case h4 => walk_at "loc"); (case h5 => walk_at "loc"); (case h5b => walk_at "loc"))
  | ((with_reducible refine Sh.asub ?_); refine' EXs.cons (EX.augSub ?h1 ?h2 ?h3 ?h4) ?h5; (case h1 => walk_at "lk"); (case h2 => walk_at "ev"); (case h3 => walk_at "upd"); (case h4 => walk_at "loc"))
  | ((with_reducible refine Sh.aadd ?_); refine' EXs.cons (EX.augAdd ?h1 ?h2 ?h3 ?h4) ?h5; (case h1 => walk_at "lk"); (case h2 => walk_at "ev"); (case h3 => walk_at "upd"); (case h4 => walk_at "loc"))
  | ((with_reducible refine Sh.nil ?_); exact EXs.nil))
noncomputable def gcdW : Nat → Int → Int → Option Int
  | 0, _, _ => none
  | k + 1, a, b => if b = 0 then some a else gcdW k b (a.fmod b)
noncomputable def gcdL (a b : Int) : Option Int := gcdW 200 (absI a) (absI b)

theorem gcd_ok {C : Cx} (B : Bd C) {a b d : Int} (h : gcdL a b = some d) : CN C 1 "gcd" [.int a, .int b] (.int d) := by
  refine CN.intro B ["a", "b"] [("a", .val (.int a)), ("b", .val (.int b))] (by rfl) (by rfl) (by rfl) (by walk_at "bind") (by decide) (by decide) rfl rfl rfl rfl rfl (out := .ret (.int d)) ?_ (.inl rfl)
  walk_at "st"
  unfold gcdL at h
  generalize absI a = a at h ⊢
  generalize absI b = b at h ⊢
  refine EXs.cons (r1 := [("a", .val (.int d)), ("b", .val (.int 0))]) (EX.while ?_) (EXs.ret (EX.return (by walk_at "ev")))
  generalize 200 = k at h
  induction k generalizing a b with
  | zero => cases h
  | succ k ih =>
    unfold gcdW at h
    split at h
    · subst b; cases h; exact WH.done (by walk_at "tst")
    · rename_i hb
      have hm : modG a b = some (a.fmod b) := by rw [modG, if_pos hb]
      refine WH.step (by walk_at "tst") ?_ (ih _ _ h)
      walk_at "st"
      walk_at "st"
noncomputable def gcdAllW : Int → List Int → Option Int
  | f, [] => some f
  | f, x :: xs => (gcdL f x).bind fun g => gcdAllW g xs
noncomputable def gcdAllL (p : List Int) : Option Int := gcdAllW 0 p

theorem gcd_all_ok {C : Cx} (B : Bd C) {p : List Int} {d : Int} (h : gcdAllL p = some d) : CN C 2 "gcd_all" [pI p] (.int d) := by
  refine CN.intro B ["numbers"] [("numbers", .val (pI p))] (by rfl) (by rfl) (by rfl) (by walk_at "bind") (by decide) (by decide) rfl rfl rfl rfl rfl (out := .ret (.int d)) ?_ (.inl rfl)
  walk_at "st"
  unfold gcdAllL at h
  refine EXs.cons (r1 := [("numbers", .val (pI p)), ("found", .val (.int d))]) (EX.for (all := p.map .int) (IT.list (by walk_at "ev")) ?_) (by walk_at "st")
  refine FL.ind (fun xs r => ∃ f, Less r [("numbers", .val (pI p)), ("found", .val (.int f))] ∧ gcdAllW f xs = some d) (by walk_at "loc") ⟨0, Less.refl, h⟩ ?_ ?_
  · rintro a xs r ⟨f, hl, hf⟩
    unfold gcdAllW at hf
    obtain ⟨g, hg, hf⟩ := Option.bind_eq_some_iff.mp hf
    have c1 := gcd_ok B hg
    refine' ⟨_, _, UPD.less hl (by walk_at "upd"), ?b, g, ?l, hf⟩
    case b =>
      walk_at "st"
      walk_at "st"
    case l => walk_at "less"
  · rintro r ⟨f, hl, hf⟩
    cases hf
    exact hl
noncomputable def ratL (t b : Int) : Option (Int × Int) :=
  if b = 0 then none else (gcdL t b).bind fun g => (divG t (if 0 < b then g else 0 - g)).bind fun x => (divG b (if 0 < b then g else 0 - g)).bind fun y => some (x, y)

theorem rat_ok {C : Cx} (B : Bd C) {t b : Int} {x : Int × Int} (h : ratL t b = some x) : CN C 2 "rat" [.int t, .int b] (rV x) := by
  unfold ratL at h
  split at h
  · cases h
  rename_i hb
  obtain ⟨g, hg, h⟩ := Option.bind_eq_some_iff.mp h
  obtain ⟨u, hu, h⟩ := Option.bind_eq_some_iff.mp h
  obtain ⟨v, hv, h⟩ := Option.bind_eq_some_iff.mp h
  cases h
  have c1 := gcd_ok B hg
  refine CN.intro B ["top", "bottom"] [("top", .val (.int t)), ("bottom", .val (.int b))] (by rfl) (by rfl) (by rfl) (by walk_at "bind") (by decide) (by decide) rfl rfl rfl rfl rfl (out := .ret (.tup [.int u, .int v])) ?_ (.inl rfl)
  refine EXs.ifF (by walk_at "tst") ?_
  by_cases c : 0 < b
  · rw [if_pos c] at hu hv
    walk_at "st"
    walk_at "st"
  · rw [if_neg c] at hu hv
    walk_at "st"
    walk_at "st"
noncomputable def raddL (a b : Int × Int) : Option (Int × Int) := (mulG a.1 b.2).bind fun x => (mulG b.1 a.2).bind fun y => (mulG a.2 b.2).bind fun z => ratL (x + y) z
theorem radd_ok {C : Cx} (B : Bd C) {a b r : Int × Int} (h : raddL a b = some r) : CN C 3 "radd" [rV a, rV b] (rV r) := by
  unfold raddL at h
  obtain ⟨x, hx, h⟩ := Option.bind_eq_some_iff.mp h
  obtain ⟨y, hy, h⟩ := Option.bind_eq_some_iff.mp h
  obtain ⟨z, hz, h⟩ := Option.bind_eq_some_iff.mp h
  have c1 := rat_ok B h
  refine CN.intro B ["a", "b"] [("a", .val (rV a)), ("b", .val (rV b))] (by rfl) (by rfl) (by rfl) (by walk_at "bind") (by decide) (by decide) rfl rfl rfl rfl rfl (out := .ret (rV r)) ?_ (.inl rfl)
  walk_at "st"
noncomputable def rsubL (a b : Int × Int) : Option (Int × Int) := (mulG a.1 b.2).bind fun x => (mulG b.1 a.2).bind fun y => (mulG a.2 b.2).bind fun z => ratL (x - y) z
theorem rsub_ok {C : Cx} (B : Bd C) {a b r : Int × Int} (h : rsubL a b = some r) : CN C 3 "rsub" [rV a, rV b] (rV r) := by
  unfold rsubL at h
  obtain ⟨x, hx, h⟩ := Option.bind_eq_some_iff.mp h
  obtain ⟨y, hy, h⟩ := Option.bind_eq_some_iff.mp h
  obtain ⟨z, hz, h⟩ := Option.bind_eq_some_iff.mp h
  have c1 := rat_ok B h
  refine CN.intro B ["a", "b"] [("a", .val (rV a)), ("b", .val (rV b))] (by rfl) (by rfl) (by rfl) (by walk_at "bind") (by decide) (by decide) rfl rfl rfl rfl rfl (out := .ret (rV r)) ?_ (.inl rfl)
  walk_at "st"
noncomputable def rmulL (a b : Int × Int) : Option (Int × Int) := (mulG a.1 b.1).bind fun x => (mulG a.2 b.2).bind fun z => ratL x z
theorem rmul_ok {C : Cx} (B : Bd C) {a b r : Int × Int} (h : rmulL a b = some r) : CN C 3 "rmul" [rV a, rV b] (rV r) := by
  unfold rmulL at h
  obtain ⟨x, hx, h⟩ := Option.bind_eq_some_iff.mp h
  obtain ⟨z, hz, h⟩ := Option.bind_eq_some_iff.mp h
  have c1 := rat_ok B h
  refine CN.intro B ["a", "b"] [("a", .val (rV a)), ("b", .val (rV b))] (by rfl) (by rfl) (by rfl) (by walk_at "bind") (by decide) (by decide) rfl rfl rfl rfl rfl (out := .ret (rV r)) ?_ (.inl rfl)
  walk_at "st"
noncomputable def signL (n : Int) : Int := b2i (decide (0 < n)) - b2i (decide (n < 0))
noncomputable def rcompareL (a b : Int × Int) : Option Int := (mulG a.1 b.2).bind fun x => (mulG b.1 a.2).bind fun y => some (signL (x - y))
theorem rcompare_ok {C : Cx} (B : Bd C) {a b : Int × Int} {r : Int} (h : rcompareL a b = some r) : CN C 1 "rcompare" [rV a, rV b] (.int r) := by
  unfold rcompareL at h
  obtain ⟨x, hx, h⟩ := Option.bind_eq_some_iff.mp h
  obtain ⟨y, hy, h⟩ := Option.bind_eq_some_iff.mp h
  cases h
  refine CN.intro B ["a", "b"] [("a", .val (rV a)), ("b", .val (rV b))] (by rfl) (by rfl) (by rfl) (by walk_at "bind") (by decide) (by decide) rfl rfl rfl rfl rfl (out := .ret (.int (b2i (decide (0 < x - y)) - b2i (decide (x - y < 0))))) ?_ (.inl rfl)
  walk_at "st"
  walk_at "st"
theorem sign_of_ok {C : Cx} (B : Bd C) {a : Int} : CN C 1 "sign_of" [.int a] (.int (signL a)) := by
  refine CN.intro B ["number"] [("number", .val (.int a))] (by rfl) (by rfl) (by rfl) (by walk_at "bind") (by decide) (by decide) rfl rfl rfl rfl rfl (out := .ret (.int (b2i (decide (0 < a)) - b2i (decide (a < 0))))) ?_ (.inl rfl)
  walk_at "st"
noncomputable def trimW (row : List Int) : Nat → Nat
  | 0 => 0
  | k + 1 => if row.getD k 0 = 0 then trimW row k else k + 1
noncomputable def ztrimL (row : List Int) : List Int := row.take (trimW row row.length)
theorem ztrim_ok {C : Cx} (B : Bd C) {p : List Int} : CN C 1 "ztrim" [pI p] (pI (ztrimL p)) := by
  refine CN.intro B ["row"] [("row", .val (pI p))] (by rfl) (by rfl) (by rfl) (by walk_at "bind") (by decide) (by decide) rfl rfl rfl rfl rfl (out := .ret (pI (ztrimL p))) ?_ (.inl rfl)
  walk_at "st"
  refine EXs.cons (r1 := [("row", .val (pI p)), ("size", .val (.int (trimW p p.length : Nat)))]) (EX.while ?_) ?_
  · obtain ⟨k, hk⟩ : ∃ k, k = p.length := ⟨_, rfl⟩
    have hle : k ≤ p.length := by omega
    rw [← hk]
    clear hk
    induction k with
    | zero => exact WH.done (TS.conv (TS.and (a := false) (b := false) (by walk_at "tst") (fun e => nomatch e)) rfl)
    | succ k ih =>
      have hi : itemI p (((k + 1 : Nat) : Int) - 1) = some (p.getD k 0) := itemI_nat (by omega) (by omega)
      have e : ((k + 1 : Nat) : Int) - 1 = k := by omega
      by_cases c : p.getD k 0 = 0
      · have e2 : trimW p (k + 1) = trimW p k := by rw [trimW, if_pos c]
        rw [e2]
        refine' WH.step (TS.conv (TS.and (a := true) (b := true) (by walk_at "tst") (fun _ => by walk_at "tst")) rfl) ?b ?w
        case b =>
          walk_at "st"
          walk_at "st"
        case w => rw [e]; exact ih (by omega)
      · have e2 : trimW p (k + 1) = k + 1 := by rw [trimW, if_neg c]
        rw [e2]
        exact WH.done (TS.conv (TS.and (a := true) (b := false) (by walk_at "tst") (fun _ => by walk_at "tst")) rfl)
  · refine EXs.ret (EX.return ?_)
    refine EV.listc (ds := [pI (ztrimL p)]) B ?_ (by intro _; rfl) (by intro _ _; rfl) (by rfl) BI.listL
    refine EVs.cons ?_ EVs.nil
    exact EV.conv (EV.toP (l := p) (k := ((trimW p p.length : Nat) : Int)) (by walk_at "ev") (by walk_at "ev") (by omega) (by intro _ _; rfl)) (by rw [Int.toNat_natCast]; rfl)
theorem IT.conv {C : Cx} {n : Nat} {sc : Scope} {r : List (Str × Sl)} {e : Expr} {ds ds' : List V} (h : IT C n sc r e ds) (hd : ds = ds') : IT C n sc r e ds' := hd ▸ h
theorem zdegree_ok {C : Cx} (B : Bd C) {p : List Int} : CN C 1 "zdegree" [pI p] (.int ((p.length : Int) - 1)) := by
  refine CN.intro B ["p"] [("p", .val (pI p))] (by rfl) (by rfl) (by rfl) (by walk_at "bind") (by decide) (by decide) rfl rfl rfl rfl rfl (out := .ret (.int ((p.length : Int) - 1))) ?_ (.inl rfl)
  walk_at "st"
noncomputable def zleadL (p : List Int) : Int := p.getLastD 0
theorem zlead_ok {C : Cx} (B : Bd C) {p : List Int} : CN C 1 "zlead" [pI p] (.int (zleadL p)) := by
  refine CN.intro B ["p"] [("p", .val (pI p))] (by rfl) (by rfl) (by rfl) (by walk_at "bind") (by decide) (by decide) rfl rfl rfl rfl rfl (out := .ret (.int (zleadL p))) ?_ (.inl rfl)
  by_cases c : p = []
  · subst c
    refine EXs.ret (EX.return (d := .int 0) ?_)
    walk_at "ev"
  · have hi := itemI_last c
    have hl : 0 < p.length := List.length_pos_iff.mpr c
    walk_at "st"
noncomputable def zaddL (a b : List Int) : Option (List Int) := if a.length ≤ 1000 ∧ b.length ≤ 1000 then some (ztrimL ((List.range (max a.length b.length)).map fun i => a.getD i 0 + b.getD i 0)) else none
theorem zadd_ok {C : Cx} (B : Bd C) {a b r : List Int} (h : zaddL a b = some r) : CN C 2 "zadd" [pI a, pI b] (pI r) := by
  unfold zaddL at h
  split at h
  rotate_left
  · cases h
  rename_i hc
  cases h
  have c1 := ztrim_ok B (p := (List.range (max a.length b.length)).map fun i => a.getD i 0 + b.getD i 0)
  refine CN.intro B ["a", "b"] [("a", .val (pI a)), ("b", .val (pI b))] (by rfl) (by rfl) (by rfl) (by walk_at "bind") (by decide) (by decide) rfl rfl rfl rfl rfl (out := .ret (pI (ztrimL ((List.range (max a.length b.length)).map fun i => a.getD i 0 + b.getD i 0)))) ?_ (.inl rfl)
  walk_at "st"
  have e : (if (b.length : Int) > (a.length : Int) then (b.length : Int) else (a.length : Int)) = ((max a.length b.length : Nat) : Int) := by
    split <;> omega
  rw [e]
  generalize hm : max a.length b.length = m at c1 ⊢
  refine EXs.ret (EX.return ?_)
  refine EV.callN (by rfl) (EVs.cons ?_ EVs.nil) c1 (by decide)
  refine EV.compX (α := Nat) (ea := fun i => .int (0 + (i : Int))) .int (f := fun i => some (a.getD i 0 + b.getD i 0)) (l := List.range m) ["a", "b"] (by walk_at "rf") (mapG_some _ _) ?_ ?_ (by rw [List.length_range]; omega)
  · exact IT.conv (IT.range1 (k := (m : Int)) (by walk_at "ev") (by omega) (by unfold cap; omega) (by rfl) (nb_range B) bb_range) (by rw [Int.toNat_natCast]; rfl)
  · intro i o ho
    cases ho
    refine EV.bin (a := .int (a.getD i 0)) (b := .int (b.getD i 0)) ?_ ?_ BIN.add
    · by_cases c : i < a.length
      · have hi : itemI a (0 + (i : Int)) = some (a.getD i 0) := itemI_nat (by omega) c
        walk_at "ev"
      · have e : a.getD i 0 = 0 := by rw [List.getD_eq_getElem?_getD, List.getElem?_eq_none (by omega)]; rfl
        rw [e]
        walk_at "ev"
    · by_cases c : i < b.length
      · have hi : itemI b (0 + (i : Int)) = some (b.getD i 0) := itemI_nat (by omega) c
        walk_at "ev"
      · have e : b.getD i 0 = 0 := by rw [List.getD_eq_getElem?_getD, List.getElem?_eq_none (by omega)]; rfl
        rw [e]
        walk_at "ev"
noncomputable def okL {α : Type} (p : List α) : Bool := decide (p.length ≤ 1000)
theorem okL_le {α : Type} {p : List α} (h : okL p = true) : p.length ≤ 1000 := of_decide_eq_true h
noncomputable def znegL (p : List Int) : Option (List Int) := if okL p = true then some (p.map fun a => -a) else none
theorem zneg_ok {C : Cx} (B : Bd C) {p r : List Int} (h : znegL p = some r) : CN C 1 "zneg" [pI p] (pI r) := by
  unfold znegL at h
  split at h
  rotate_left
  · cases h
  rename_i hc
  cases h
  refine CN.intro B ["p"] [("p", .val (pI p))] (by rfl) (by rfl) (by rfl) (by walk_at "bind") (by decide) (by decide) rfl rfl rfl rfl rfl (out := .ret (pI (p.map fun a => -a))) ?_ (.inl rfl)
  refine EXs.ret (EX.return ?_)
  refine EV.compX .int (ea := .int) (f := fun a => some (-a)) (l := p) [] (by walk_at "rf") (mapG_some _ _) (IT.list (by walk_at "ev")) ?_ (okL_le hc)
  intro a b e
  cases e
  walk_at "ev"
noncomputable def zsubL (a b : List Int) : Option (List Int) := (znegL b).bind fun c => zaddL a c
theorem zsub_ok {C : Cx} (B : Bd C) {a b r : List Int} (h : zsubL a b = some r) : CN C 3 "zsub" [pI a, pI b] (pI r) := by
  unfold zsubL at h
  obtain ⟨c, hc, h⟩ := Option.bind_eq_some_iff.mp h
  have c1 := zneg_ok B hc
  have c2 := zadd_ok B h
  refine CN.intro B ["a", "b"] [("a", .val (pI a)), ("b", .val (pI b))] (by rfl) (by rfl) (by rfl) (by walk_at "bind") (by decide) (by decide) rfl rfl rfl rfl rfl (out := .ret (pI r)) ?_ (.inl rfl)
  walk_at "st"
noncomputable def zscaleL (p : List Int) (k : Int) : Option (List Int) := if k = 0 then some [] else if okL p = true then mapG (fun a => mulG a k) p else none
theorem zscale_ok {C : Cx} (B : Bd C) {p r : List Int} {k : Int} (h : zscaleL p k = some r) : CN C 1 "zscale" [pI p, .int k] (pI r) := by
  unfold zscaleL at h
  split at h
  · rename_i hk
    cases h
    refine CN.intro B ["p", "k"] [("p", .val (pI p)), ("k", .val (.int k))] (by rfl) (by rfl) (by rfl) (by walk_at "bind") (by decide) (by decide) rfl rfl rfl rfl rfl (out := .ret (.lst [])) ?_ (.inl rfl)
    walk_at "st"
  · rename_i hk
    split at h
    rotate_left
    · cases h
    rename_i hc
    refine CN.intro B ["p", "k"] [("p", .val (pI p)), ("k", .val (.int k))] (by rfl) (by rfl) (by rfl) (by walk_at "bind") (by decide) (by decide) rfl rfl rfl rfl rfl (out := .ret (pI r)) ?_ (.inl rfl)
    refine EXs.ret (EX.return (EV.ifT (by walk_at "tst") ?_))
    refine EV.compX .int (ea := .int) ["k"] (by walk_at "rf") h (IT.list (by walk_at "ev")) ?_ (okL_le hc)
    intro a b e
    walk_at "ev"
noncomputable def zraiseL (p : List Int) (many : Int) : Option (List Int) := if p = [] then some [] else if 0 ≤ many ∧ many ≤ 1000 ∧ okL p = true then some (List.replicate many.toNat 0 ++ p) else none
theorem zraise_ok {C : Cx} (B : Bd C) {p r : List Int} {k : Int} (h : zraiseL p k = some r) : CN C 1 "zraise" [pI p, .int k] (pI r) := by
  unfold zraiseL at h
  split at h
  · rename_i hp
    subst hp
    cases h
    refine CN.intro B ["p", "many"] [("p", .val (pI [])), ("many", .val (.int k))] (by rfl) (by rfl) (by rfl) (by walk_at "bind") (by decide) (by decide) rfl rfl rfl rfl rfl (out := .ret (.lst [])) ?_ (.inl rfl)
    refine EXs.ret (EX.return (EV.ifF (TS.conv (TS.cmp (EV.len (ds := [pI []]) B (EVs.cons (by walk_at "ev") EVs.nil) (by intro _; rfl) (by intro _ _; rfl) (by rfl) BI.lenM) (by walk_at "ev") CMP.gtI) (by rfl)) ?_))
    walk_at "ev"
  · rename_i hp
    split at h
    rotate_left
    · cases h
    rename_i hc
    cases h
    have hl : 0 < p.length := List.length_pos_iff.mpr hp
    have hl2 := okL_le hc.2.2
    refine CN.intro B ["p", "many"] [("p", .val (pI p)), ("many", .val (.int k))] (by rfl) (by rfl) (by rfl) (by walk_at "bind") (by decide) (by decide) rfl rfl rfl rfl rfl (out := .ret (pI (List.replicate k.toNat 0 ++ p))) ?_ (.inl rfl)
    refine EXs.ret (EX.return (EV.ifT (by walk_at "tst") ?_))
    refine EV.bin (a := pI (List.replicate k.toNat 0)) (b := pI p) ?_ (by walk_at "ev") (BIN.addP (by rw [List.length_replicate]; unfold cap; omega))
    refine EV.conv (EVO.ev (EVO.mul (d := .int 0) (k := k) (EVs.cons EV.cint EVs.nil) (by walk_at "ev") (by unfold cap; omega) (by omega))) ?_
    show V.lst (List.replicate k.toNat (.int 0)) = V.lst ((List.replicate k.toNat (0 : Int)).map .int)
    rw [List.map_replicate]
theorem zcontent_ok {C : Cx} (B : Bd C) {p : List Int} {d : Int} (h : gcdAllL p = some d) : CN C 3 "zcontent" [pI p] (.int d) := by
  have c1 := gcd_all_ok B h
  refine CN.intro B ["p"] [("p", .val (pI p))] (by rfl) (by rfl) (by rfl) (by walk_at "bind") (by decide) (by decide) rfl rfl rfl rfl rfl (out := .ret (.int d)) ?_ (.inl rfl)
  walk_at "st"
noncomputable def zdividedL (p : List Int) (k : Int) : Option (List Int) := if okL p = true then mapG (fun a => divG a k) p else none
theorem zdivided_ok {C : Cx} (B : Bd C) {p r : List Int} {k : Int} (h : zdividedL p k = some r) : CN C 1 "zdivided" [pI p, .int k] (pI r) := by
  unfold zdividedL at h
  split at h
  rotate_left
  · cases h
  rename_i hc
  refine CN.intro B ["p", "k"] [("p", .val (pI p)), ("k", .val (.int k))] (by rfl) (by rfl) (by rfl) (by walk_at "bind") (by decide) (by decide) rfl rfl rfl rfl rfl (out := .ret (pI r)) ?_ (.inl rfl)
  refine EXs.ret (EX.return ?_)
  refine EV.compX .int (ea := .int) ["k"] (by walk_at "rf") h (IT.list (by walk_at "ev")) ?_ (okL_le hc)
  intro a b e
  walk_at "ev"
noncomputable def zprimitiveL (p : List Int) : Option (List Int) := if p ≠ [] then (gcdAllL p).bind fun c => zdividedL p (if 0 < zleadL p then c else -c) else none
theorem zprimitive_ok {C : Cx} (B : Bd C) {p r : List Int} (h : zprimitiveL p = some r) : CN C 4 "zprimitive" [pI p] (pI r) := by
  unfold zprimitiveL at h
  split at h
  rotate_left
  · cases h
  rename_i hp
  obtain ⟨c, hc, h⟩ := Option.bind_eq_some_iff.mp h
  have c1 := zcontent_ok B hc
  have c2 := zdivided_ok B h
  have hi : itemI p (-1) = some (zleadL p) := itemI_last hp
  have hl : 0 < p.length := List.length_pos_iff.mpr hp
  refine CN.intro B ["p"] [("p", .val (pI p))] (by rfl) (by rfl) (by rfl) (by walk_at "bind") (by decide) (by decide) rfl rfl rfl rfl rfl (out := .ret (pI r)) ?_ (.inl rfl)
  refine EXs.ifF (by walk_at "tst") ?_
  walk_at "st"
  by_cases c3 : 0 < zleadL p
  · rw [if_pos c3] at c2
    walk_at "st"
  · rw [if_neg c3] at c2
    walk_at "st"
noncomputable def derW : Nat → List Int → Option (List Int)
  | _, [] => some []
  | i, x :: xs => (mulG x (i : Int)).bind fun y => (derW (i + 1) xs).bind fun ys => some (y :: ys)
theorem derW_get : ∀ {p q : List Int} {k : Nat}, derW k p = some q → q.length = p.length ∧ ∀ i x y, p[i]? = some x → q[i]? = some y → mulG x ((k + i : Nat) : Int) = some y
  | [], q, k, h => by cases h; exact ⟨rfl, fun i x y e => nomatch e⟩
  | x :: xs, q, k, h => by
    unfold derW at h
    obtain ⟨y, hy, h⟩ := Option.bind_eq_some_iff.mp h
    obtain ⟨ys, hys, h⟩ := Option.bind_eq_some_iff.mp h
    cases h
    obtain ⟨h1, h2⟩ := derW_get hys
    refine ⟨by rw [List.length_cons, List.length_cons, h1], fun i u v e1 e2 => ?_⟩
    cases i with
    | zero => cases e1; cases e2; exact hy
    | succ i =>
      have := h2 i u v (by simpa using e1) (by simpa using e2)
      rwa [show k + 1 + i = k + (i + 1) by omega] at this
noncomputable def zderiveL (p : List Int) : Option (List Int) := (derW 0 p).bind fun q => some (q.drop 1)
theorem zderive_ok {C : Cx} (B : Bd C) {p r : List Int} (h : zderiveL p = some r) : CN C 1 "zderive" [pI p] (pI r) := by
  unfold zderiveL at h
  obtain ⟨q, hq, h⟩ := Option.bind_eq_some_iff.mp h
  cases h
  obtain ⟨g1, g2⟩ := derW_get hq
  refine CN.intro B ["p"] [("p", .val (pI p))] (by rfl) (by rfl) (by rfl) (by walk_at "bind") (by decide) (by decide) rfl rfl rfl rfl rfl (out := .ret (pI (q.drop 1))) ?_ (.inl rfl)
  refine EXs.ret (EX.return ?_)
  refine EV.conv (EV.sliceFromG (k := 1) (l := q.map .int) ?_) (by show V.lst ((q.map .int).drop 1) = V.lst ((q.drop 1).map .int); rw [List.map_drop])
  refine EV.compE (p.map .int) (q.map .int) [] (by walk_at "ev") (by rfl) (nb_enumerate B) bb_enumerate (by intro _; rfl) (by decide) (by rfl) (by decide) (by rfl) (by rfl) (by decide) (fun _ h => nomatch h) (by intro y hy; exact absurd hy (by simp)) (by rw [List.length_map, List.length_map, g1]) ?_
  intro i d o e1 e2
  rw [List.getElem?_map] at e1 e2
  obtain ⟨x, hx, rfl⟩ := Option.map_eq_some_iff.mp e1
  obtain ⟨y, hy, rfl⟩ := Option.map_eq_some_iff.mp e2
  have hm := g2 i x y hx hy
  rw [Nat.zero_add] at hm
  walk_at "ev"
theorem check_bottom_ok {C : Cx} (B : Bd C) {p : List Int} (hp : p ≠ []) : CN C 1 "check_bottom" [pI p] .none := by
  have hl : 0 < p.length := List.length_pos_iff.mpr hp
  refine CN.intro B ["p"] [("p", .val (pI p))] (by rfl) (by rfl) (by rfl) (by walk_at "bind") (by decide) (by decide) rfl rfl rfl rfl rfl (out := .next [("p", .val (pI p))]) ?_ (.inr ⟨⟨_, rfl⟩, rfl⟩)
  refine EXs.ifF (by walk_at "tst") ?_
  walk_at "st"
noncomputable def mx0 (e : Int) : Int := if e > 0 then e else 0
noncomputable def zexactW : Nat → List Int → List Int → List Int → Option (List Int × List Int)
  | 0, _, _, _ => none
  | k + 1, b, rest, found => if b.length ≤ rest.length then
      (modG (zleadL rest) (zleadL b)).bind fun m => if m = 0 ∧ (rest.length : Int) - (b.length : Int) < (found.length : Int) then
        (divG (zleadL rest) (zleadL b)).bind fun q => (zscaleL b q).bind fun s => (zraiseL s ((rest.length : Int) - (b.length : Int))).bind fun t => (zsubL rest t).bind fun rest' =>
          zexactW k b rest' (found.set ((rest.length : Int) - (b.length : Int)).toNat q) else none
    else some (rest, found)
noncomputable def zexactL (a b : List Int) : Option (List Int) := if b ≠ [] ∧ okL a = true ∧ okL b = true then
  (zexactW 100 b a (List.replicate (mx0 ((a.length : Int) - (b.length : Int) + 1)).toNat 0)).bind fun p => if p.1 = [] then some (ztrimL p.2) else none else none

theorem zexact_ok {C : Cx} (B : Bd C) {a b r : List Int} (h : zexactL a b = some r) : CN C 4 "zexact" [pI a, pI b] (pI r) := by
  unfold zexactL at h
  split at h
  rotate_left
  · cases h
  rename_i hc
  obtain ⟨p, hp, h⟩ := Option.bind_eq_some_iff.mp h
  split at h
  rotate_left
  · cases h
  rename_i hr
  cases h
  obtain ⟨hb, ha1, hb1⟩ := hc
  have ha2 := okL_le ha1
  have hb2 := okL_le hb1
  have c0 := check_bottom_ok B hb
  have hbl : 0 < b.length := List.length_pos_iff.mpr hb
  have ib : itemI b (-1) = some (zleadL b) := itemI_last hb
  have cz := ztrim_ok B (p := p.2)
  refine CN.intro B ["a", "b"] [("a", .val (pI a)), ("b", .val (pI b))] (by rfl) (by rfl) (by rfl) (by walk_at "bind") (by decide) (by decide) rfl rfl rfl rfl rfl (out := .ret (pI (ztrimL p.2))) ?_ (.inl rfl)
  refine EXs.cons (EX.expr (by walk_at "ev")) ?_
  refine' EXs.cons (EX.sw2 (t1 := .val (pI a)) (t2 := .own ((List.replicate (mx0 ((a.length : Int) - (b.length : Int) + 1)).toNat (0 : Int)).map .int)) ?h1 ?h2 ?h3 ?h4 ?h5 (by intro _; rfl) (by walk_at "sw")) ?h6
  case h1 =>
    refine EVS.consV (by walk_at "ev") (EVS.consO ?_ EVS.nil)
    have e : (List.replicate (mx0 ((a.length : Int) - (b.length : Int) + 1)).toNat (0 : Int)).map V.int = List.replicate (mx0 ((a.length : Int) - (b.length : Int) + 1)).toNat (V.int 0) := List.map_replicate ..
    rw [e]
    refine EVO.mul (EVs.cons EV.cint EVs.nil) (by unfold mx0; walk_at "ev") (by unfold mx0 cap; split <;> omega) (by unfold mx0; split <;> omega)
  case h2 => walk_at "upd"
  case h3 => walk_at "upd"
  case h4 => walk_at "loc"
  case h5 => walk_at "loc"
  refine EXs.cons (r1 := [("a", .val (pI a)), ("b", .val (pI b)), ("found", .own (p.2.map .int)), ("rest", .val (pI []))]) (EX.while ?_) ?_
  · generalize (List.replicate (mx0 ((a.length : Int) - (b.length : Int) + 1)).toNat (0 : Int)) = found at hp ⊢
    obtain ⟨rest, hrest⟩ : ∃ rest, a = rest := ⟨_, rfl⟩
    have hp' : zexactW 100 b rest found = some p := hrest ▸ hp
    generalize 100 = k at hp'
    clear hp
    refine WH.less (r1 := [("a", .val (pI a)), ("b", .val (pI b)), ("found", .own (found.map .int)), ("rest", .val (pI rest))]) (by rw [← hrest]; exact Less.refl) ?_
    clear hrest
    induction k generalizing rest found with
    | zero => cases hp'
    | succ k ih =>
      unfold zexactW at hp'
      split at hp'
      · rename_i hle
        obtain ⟨m, hm, hp'⟩ := Option.bind_eq_some_iff.mp hp'
        split at hp'
        rotate_left
        · cases hp'
        rename_i hm0
        obtain ⟨rfl, hj⟩ := hm0
        obtain ⟨q, hq, hp'⟩ := Option.bind_eq_some_iff.mp hp'
        obtain ⟨s, hs, hp'⟩ := Option.bind_eq_some_iff.mp hp'
        obtain ⟨t, ht, hp'⟩ := Option.bind_eq_some_iff.mp hp'
        obtain ⟨rest', hr', hp'⟩ := Option.bind_eq_some_iff.mp hp'
        have hrl : 0 < rest.length := by omega
        have ir : itemI rest (-1) = some (zleadL rest) := itemI_last (List.length_pos_iff.mp hrl)
        have c1 := zscale_ok B hs
        have c2 := zraise_ok B ht
        have c3 := zsub_ok B hr'
        refine' WH.step (by walk_at "tst") ?b (ih _ _ hp')
        case b =>
          refine EXs.ifF (by walk_at "tst") ?_
          walk_at "st"
          refine' EXs.cons (EX.setItemM ?j1 ?j2 ?j3 ?j4 ?j5 (by intro _; rfl) (by decide) (by decide)) ?j6
          case j1 => walk_at "lk"
          case j2 => walk_at "ev"
          case j3 => walk_at "ev"
          case j4 => exact ⟨by omega, hj⟩
          case j5 => walk_at "upd"
          walk_at "st"
          exact EXs.nilL (by walk_at "less")
      · rename_i hle
        cases hp'
        have hr0 : rest = [] := hr
        subst hr0
        exact WH.done (by walk_at "tst")
  · refine EXs.freeze (x := "found") (by walk_at "lk") (by walk_at "upd") ?_
    walk_at "st"
noncomputable def pseudoW : Nat → List Int → Int → List Int → List Int → Int → Option (List Int × List Int × Int)
  | 0, _, _, _, _, _ => none
  | k + 1, b, first, rest, found, left => if b.length ≤ rest.length then
      (zscaleL found first).bind fun f1 => (zraiseL [-(zleadL rest)] ((rest.length : Int) - (b.length : Int))).bind fun f2 => (zsubL f1 f2).bind fun found' =>
      (zscaleL rest first).bind fun r1 => (zscaleL b (zleadL rest)).bind fun s => (zraiseL s ((rest.length : Int) - (b.length : Int))).bind fun r2 => (zsubL r1 r2).bind fun rest' =>
        pseudoW k b first rest' found' (left - 1)
    else some (rest, found, left)
noncomputable def pseudoL (a b : List Int) : Option (List Int × List Int × Int) := if b ≠ [] then
  (pseudoW 100 b (zleadL b) a [] (mx0 ((a.length : Int) - (b.length : Int) + 1))).bind fun p => (powG (zleadL b) p.2.2).bind fun more => (zscaleL p.2.1 more).bind fun f => (zscaleL p.1 more).bind fun r =>
    some (f, r, mx0 ((a.length : Int) - (b.length : Int) + 1)) else none
noncomputable abbrev tri (p : List Int × List Int × Int) : V := .tup [pI p.1, pI p.2.1, .int p.2.2]
theorem pseudo_ok {C : Cx} (B : Bd C) {a b : List Int} {r : List Int × List Int × Int} (h : pseudoL a b = some r) : CN C 4 "pseudo" [pI a, pI b] (tri r) := by
  unfold pseudoL at h
  split at h
  rotate_left
  · cases h
  rename_i hb
  obtain ⟨p, hp, h⟩ := Option.bind_eq_some_iff.mp h
  obtain ⟨more, hmore, h⟩ := Option.bind_eq_some_iff.mp h
  obtain ⟨f, hf, h⟩ := Option.bind_eq_some_iff.mp h
  obtain ⟨r, hr, h⟩ := Option.bind_eq_some_iff.mp h
  cases h
  have c0 := check_bottom_ok B hb
  have hbl : 0 < b.length := List.length_pos_iff.mpr hb
  have cl := zlead_ok B (p := b)
  have cf := zscale_ok B hf
  have cr := zscale_ok B hr
  refine CN.intro B ["a", "b"] [("a", .val (pI a)), ("b", .val (pI b))] (by rfl) (by rfl) (by rfl) (by walk_at "bind") (by decide) (by decide) rfl rfl rfl rfl rfl (out := .ret (.tup [pI f, pI r, .int (mx0 ((a.length : Int) - (b.length : Int) + 1))])) ?_ (.inl rfl)
  refine EXs.cons (EX.expr (by walk_at "ev")) ?_
  unfold mx0 at hp ⊢
  walk_at "st"
  refine' EXs.cons (EX.in4 (t1 := .val (pI a)) (t2 := .val (pI [])) ?h1 ?h2 ?h3 ?h3c ?h3d ?h4 ?h5 ?h5c ?h5d (by intro _; rfl) (by walk_at "sw")) ?h6
  case h1 =>
    refine' EVS.consV ?g1 (EVS.consV (EV.list EVs.nil) ?g2)
    case g1 => walk_at "ev"
    case g2 => walk_at "evS"
  case h2 => walk_at "upd"
  case h3 => walk_at "upd"
  case h3c => walk_at "upd"
  case h3d => walk_at "upd"
  case h4 => walk_at "loc"
  case h5 => walk_at "loc"
  case h5c => walk_at "loc"
  case h5d => walk_at "loc"
  obtain ⟨prest, pfound, pleft⟩ := p
  generalize (if (a.length : Int) - (b.length : Int) + 1 > 0 then (a.length : Int) - (b.length : Int) + 1 else 0) = many at hp ⊢
  refine EXs.cons (r1 := [("a", .val (pI a)), ("b", .val (pI b)), ("many", .val (.int many)), ("rest", .val (pI prest)), ("found", .val (pI pfound)), ("left", .val (.int pleft)), ("first", .val (.int (zleadL b)))]) (EX.while ?_) ?_
  · obtain ⟨rest, hrest⟩ : ∃ rest, a = rest := ⟨_, rfl⟩
    obtain ⟨left, hleft⟩ : ∃ left, many = left := ⟨_, rfl⟩
    have hp' : pseudoW 100 b (zleadL b) rest [] left = some (prest, pfound, pleft) := hleft ▸ hrest ▸ hp
    generalize ([] : List Int) = found at hp' ⊢
    generalize 100 = k at hp'
    clear hp
    refine WH.less (r1 := [("a", .val (pI a)), ("b", .val (pI b)), ("many", .val (.int many)), ("rest", .val (pI rest)), ("found", .val (pI found)), ("left", .val (.int left)), ("first", .val (.int (zleadL b)))]) (by rw [← hrest, ← hleft]; exact Less.refl) ?_
    clear hrest hleft
    induction k generalizing rest found left with
    | zero => cases hp'
    | succ k ih =>
      unfold pseudoW at hp'
      split at hp'
      · rename_i hle
        obtain ⟨f1, hf1, hp'⟩ := Option.bind_eq_some_iff.mp hp'
        obtain ⟨f2, hf2, hp'⟩ := Option.bind_eq_some_iff.mp hp'
        obtain ⟨found', hf', hp'⟩ := Option.bind_eq_some_iff.mp hp'
        obtain ⟨r1, hr1, hp'⟩ := Option.bind_eq_some_iff.mp hp'
        obtain ⟨s, hs, hp'⟩ := Option.bind_eq_some_iff.mp hp'
        obtain ⟨r2, hr2, hp'⟩ := Option.bind_eq_some_iff.mp hp'
        obtain ⟨rest', hr', hp'⟩ := Option.bind_eq_some_iff.mp hp'
        have hrl : 0 < rest.length := by omega
        have ir : itemI rest (-1) = some (zleadL rest) := itemI_last (List.length_pos_iff.mp hrl)
        have c1 := zscale_ok B hf1
        have c2 := zraise_ok B hf2
        have c3 := zsub_ok B hf'
        have c4 := zscale_ok B hr1
        have c5 := zscale_ok B hs
        have c6 := zraise_ok B hr2
        have c7 := zsub_ok B hr'
        refine' WH.step (by walk_at "tst") ?b (ih _ _ _ hp')
        case b =>
          walk_at "st"
          walk_at "st"
          walk_at "st"
          walk_at "st"
          exact EXs.nilL (by walk_at "less")
      · rename_i hle
        cases hp'
        exact WH.done (by walk_at "tst")
  · walk_at "st"
    walk_at "st"
theorem zpseudo_rest_ok {C : Cx} (B : Bd C) {a b : List Int} {r : List Int × List Int × Int} (h : pseudoL a b = some r) : CN C 5 "zpseudo_rest" [pI a, pI b] (pI r.2.1) := by
  have c1 := pseudo_ok B h
  refine CN.intro B ["a", "b"] [("a", .val (pI a)), ("b", .val (pI b))] (by rfl) (by rfl) (by rfl) (by walk_at "bind") (by decide) (by decide) rfl rfl rfl rfl rfl (out := .ret (pI r.2.1)) ?_ (.inl rfl)
  walk_at "st"
noncomputable def nextHeightL (front step height : Int) : Option Int := if step = 0 then some height else (powG front step).bind fun x => (powG height (step - 1)).bind fun y => divG x y
theorem next_height_ok {C : Cx} (B : Bd C) {front step height r : Int} (h : nextHeightL front step height = some r) : CN C 1 "next_height" [.int front, .int step, .int height] (.int r) := by
  unfold nextHeightL at h
  refine CN.intro B ["front", "step", "height"] [("front", .val (.int front)), ("step", .val (.int step)), ("height", .val (.int height))] (by rfl) (by rfl) (by rfl) (by walk_at "bind") (by decide) (by decide) rfl rfl rfl rfl rfl (out := .ret (.int r)) ?_ (.inl rfl)
  split at h
  · rename_i hs
    cases h
    refine EXs.ifT (by walk_at "tst") ?_
    walk_at "st"
  · rename_i hs
    obtain ⟨x, hx, h⟩ := Option.bind_eq_some_iff.mp h
    obtain ⟨y, hy, h⟩ := Option.bind_eq_some_iff.mp h
    refine EXs.ifF (by walk_at "tst") ?_
    walk_at "st"
theorem WH.outLess {C : Cx} {n : Nat} {sc : Scope} {r r1 r2 : List (Str × Sl)} {t : Expr} {body : List Stmt} (l : Less r1 r2) (h : WH C n sc r t body (.next r1)) : WH C n sc r t body (.next r2) :=
  fun env A s F G F0 S ro R hq => h env A s F G F0 S ro R fun F' h' tk' S' => hq F' h' tk' (S'.less l)
noncomputable def subresW : Nat → List Int → List Int → List (List Int) → Int → Int → Option (List (List Int))
  | 0, _, _, _, _, _ => none
  | k + 1, a, b, row, front, height => if 1 < b.length then
      (pseudoL a b).bind fun p => if p.2.1 ≠ [] ∧ row.length ≤ 1000 then
        (powG height ((a.length : Int) - (b.length : Int))).bind fun hs => (mulG front hs).bind fun m => (zdividedL p.2.1 m).bind fun b' =>
        (nextHeightL (zleadL b) ((a.length : Int) - (b.length : Int)) height).bind fun hh => subresW k b b' (row ++ [b']) (zleadL b) hh
      else none
    else some row
noncomputable def subresL (a b : List Int) : Option (List (List Int)) := if b.length ≤ a.length then subresW 100 a b [a, b] 1 1 else none
theorem subresultants_ok {C : Cx} (B : Bd C) {a b : List Int} {r : List (List Int)} (h : subresL a b = some r) : CN C 6 "subresultants" [pI a, pI b] (.lst (r.map pI)) := by
  unfold subresL at h
  split at h
  rotate_left
  · cases h
  rename_i hl
  refine CN.intro B ["a", "b"] [("a", .val (pI a)), ("b", .val (pI b))] (by rfl) (by rfl) (by rfl) (by walk_at "bind") (by decide) (by decide) rfl rfl rfl rfl rfl (out := .ret (.lst (r.map pI))) ?_ (.inl rfl)
  refine EXs.ifF (by walk_at "tst") ?_
  refine' EXs.cons (EX.sw3 (t1 := .own ([a, b].map pI)) ?h1 ?h2 ?h3 ?h3c ?h4 ?h5 ?h5c (by intro _; rfl) (by walk_at "sw")) ?h6
  case h1 =>
    refine' EVS.consO (EVO.list ?g1 (hl := of_decide_eq_true (by rfl))) ?g2
    case g1 => exact EVs.cons (by walk_at "ev") (EVs.cons (by walk_at "ev") EVs.nil)
    case g2 => walk_at "evS"
  case h2 => walk_at "upd"
  case h3 => walk_at "upd"
  case h3c => walk_at "upd"
  case h4 => walk_at "loc"
  case h5 => walk_at "loc"
  case h5c => walk_at "loc"
  obtain ⟨front, hfr⟩ : ∃ front : Int, 1 = front := ⟨_, rfl⟩
  obtain ⟨height, hhe⟩ : ∃ height : Int, 1 = height := ⟨_, rfl⟩
  have h' : subresW 100 a b [a, b] front height = some r := by rw [← hfr, ← hhe]; exact h
  generalize ([a, b] : List (List Int)) = row at h' ⊢
  generalize 100 = k at h'
  refine EXs.cons (r1 := [("row", .own (r.map pI))]) (EX.while (WH.less (r1 := [("a", .val (pI a)), ("b", .val (pI b)), ("height", .val (.int height)), ("front", .val (.int front)), ("row", .own (row.map pI))]) (by rw [← hfr, ← hhe]; exact Less.refl) ?_)) ?_
  · clear hfr hhe h hl
    induction k generalizing a b row front height with
    | zero => cases h'
    | succ k ih =>
      unfold subresW at h'
      split at h'
      · rename_i hle
        obtain ⟨p, hp, h'⟩ := Option.bind_eq_some_iff.mp h'
        split at h'
        rotate_left
        · cases h'
        rename_i hc
        obtain ⟨hs, hhs, h'⟩ := Option.bind_eq_some_iff.mp h'
        obtain ⟨m, hm, h'⟩ := Option.bind_eq_some_iff.mp h'
        obtain ⟨b', hb', h'⟩ := Option.bind_eq_some_iff.mp h'
        obtain ⟨hh, hhh, h'⟩ := Option.bind_eq_some_iff.mp h'
        obtain ⟨hne, hrow⟩ := hc
        have hpl : 0 < p.2.1.length := List.length_pos_iff.mpr hne
        have c1 := zpseudo_rest_ok B hp
        have c2 := zdivided_ok B hb'
        have c3 := zlead_ok B (p := b)
        have c4 := next_height_ok B hhh
        refine' WH.step (by walk_at "tst") ?b (ih _ _ _ h')
        case b =>
          walk_at "st"
          walk_at "st"
          refine EXs.ifF (by walk_at "tst") ?_
          walk_at "st"
          walk_at "app"
          walk_at "st"
          walk_at "st"
          exact EXs.nilL (by walk_at "less")
      · rename_i hle
        cases h'
        exact WH.outLess (by walk_at "less") (WH.done (by walk_at "tst"))
  · refine EXs.freeze (x := "row") (by walk_at "lk") (by walk_at "upd") ?_
    walk_at "st"
noncomputable def zgcdL (a b : List Int) : Option (List Int) := if a ≠ [] ∧ b ≠ [] then
  (gcdAllL a).bind fun ca => (gcdAllL b).bind fun cb => (gcdL ca cb).bind fun number => (zprimitiveL a).bind fun pa => (zprimitiveL b).bind fun pb => (subresL pa pb).bind fun rows =>
    rows.getLast?.bind fun last => if last.length ≤ 1 then some [number] else none else none
theorem zgcd_ok {C : Cx} (B : Bd C) {a b r : List Int} (h : zgcdL a b = some r) : CN C 7 "zgcd" [pI a, pI b] (pI r) := by
  unfold zgcdL at h
  split at h
  rotate_left
  · cases h
  rename_i hc
  obtain ⟨ha, hb⟩ := hc
  obtain ⟨ca, hca, h⟩ := Option.bind_eq_some_iff.mp h
  obtain ⟨cb, hcb, h⟩ := Option.bind_eq_some_iff.mp h
  obtain ⟨number, hn, h⟩ := Option.bind_eq_some_iff.mp h
  obtain ⟨pa, hpa, h⟩ := Option.bind_eq_some_iff.mp h
  obtain ⟨pb, hpb, h⟩ := Option.bind_eq_some_iff.mp h
  obtain ⟨rows, hrows, h⟩ := Option.bind_eq_some_iff.mp h
  obtain ⟨last, hlast, h⟩ := Option.bind_eq_some_iff.mp h
  split at h
  rotate_left
  · cases h
  rename_i hl
  cases h
  have hal : 0 < a.length := List.length_pos_iff.mpr ha
  have hbl : 0 < b.length := List.length_pos_iff.mpr hb
  have c1 := zcontent_ok B hca
  have c2 := zcontent_ok B hcb
  have c3 := gcd_ok B hn
  have c4 := zprimitive_ok B hpa
  have c5 := zprimitive_ok B hpb
  have c6 := subresultants_ok B hrows
  have hi := lastM hlast
  refine CN.intro B ["a", "b"] [("a", .val (pI a)), ("b", .val (pI b))] (by rfl) (by rfl) (by rfl) (by walk_at "bind") (by decide) (by decide) rfl rfl rfl rfl rfl (out := .ret (.lst [.int number])) ?_ (.inl rfl)
  refine EXs.ifF (TS.conv (TS.or (a := false) (b := false) (by walk_at "tst") (fun _ => by walk_at "tst")) rfl) ?_
  walk_at "st"
  walk_at "st"
  refine EXs.ret (EX.return (EV.ifF (by walk_at "tst") (EV.list (EVs.cons (by walk_at "ev") EVs.nil) (hl := of_decide_eq_true (by rfl)))))
noncomputable def valW (top bottom : Int) : List Int → Int → Int → Option Int
  | [], found, _ => some found
  | c :: cs, found, scale => (mulG found top).bind fun x => (mulG c scale).bind fun y => (mulG scale bottom).bind fun z => valW top bottom cs (x + y) z
noncomputable def valueSignL (p : List Int) (x : Int × Int) : Option Int := (valW x.1 x.2 p.reverse 0 1).bind fun v => some (signL v)
theorem value_sign_ok {C : Cx} (B : Bd C) {p : List Int} {x : Int × Int} {r : Int} (h : valueSignL p x = some r) : CN C 2 "value_sign" [pI p, rV x] (.int r) := by
  unfold valueSignL at h
  obtain ⟨v, hv, h⟩ := Option.bind_eq_some_iff.mp h
  cases h
  have c1 := sign_of_ok B (a := v)
  refine CN.intro B ["p", "x"] [("p", .val (pI p)), ("x", .val (rV x))] (by rfl) (by rfl) (by rfl) (by walk_at "bind") (by decide) (by decide) rfl rfl rfl rfl rfl (out := .ret (.int (signL v))) ?_ (.inl rfl)
  walk_at "st"
  walk_at "st"
  refine EXs.cons (r1 := [("found", .val (.int v))]) (EX.for (all := p.reverse.map .int) (IT.conv (IT.rev (ds := p.map .int) (by walk_at "ev") (by rfl) (nb_reversed B) bb_reversed) (by rw [List.map_reverse])) ?_) (by walk_at "st")
  refine FL.ind (fun xs r => ∃ f s, Less r [("top", .val (.int x.1)), ("bottom", .val (.int x.2)), ("found", .val (.int f)), ("scale", .val (.int s))] ∧ valW x.1 x.2 xs f s = some v) (by walk_at "loc") ⟨0, 1, by walk_at "less", hv⟩ ?_ ?_
  · rintro c cs r ⟨f, s, hl, hf⟩
    unfold valW at hf
    obtain ⟨y1, hy1, hf⟩ := Option.bind_eq_some_iff.mp hf
    obtain ⟨y2, hy2, hf⟩ := Option.bind_eq_some_iff.mp hf
    obtain ⟨y3, hy3, hf⟩ := Option.bind_eq_some_iff.mp hf
    refine' ⟨_, _, UPD.less hl (by walk_at "upd"), ?b, y1 + y2, y3, ?l, hf⟩
    case b =>
      walk_at "st"
      walk_at "st"
      walk_at "st"
    case l => walk_at "less"
  · rintro r ⟨f, s, hl, hf⟩
    cases hf
    exact fun y u k => hl y u (by cases k with | here => exact (by walk_at "lk") | next _ k => cases k)
theorem sign_at_ok {C : Cx} (B : Bd C) {p : List Int} {x : Int × Int} {r : Int} (h : valueSignL p x = some r) : CN C 3 "sign_at" [pI p, rV x] (.int r) := by
  have c1 := value_sign_ok B h
  refine CN.intro B ["p", "x"] [("p", .val (pI p)), ("x", .val (rV x))] (by rfl) (by rfl) (by rfl) (by walk_at "bind") (by decide) (by decide) rfl rfl rfl rfl rfl (out := .ret (.int r)) ?_ (.inl rfl)
  refine EXs.ret (EX.return (EV.ifF (TS.val (EV.isStr (l := [.int x.1, .int x.2]) (by rfl) (by rfl) (nb_isinstance B) (nb_str B) bb_isinstance bb_str (by walk_at "ev"))) (by walk_at "ev")))
noncomputable def simplePartL (f : List Int) : Option (List Int) := (zderiveL f).bind fun d => (zgcdL f d).bind fun g => if g.length ≤ 1 then some f else none
theorem simple_part_ok {C : Cx} (B : Bd C) {f r : List Int} (h : simplePartL f = some r) : CN C 8 "simple_part" [pI f] (pI r) := by
  unfold simplePartL at h
  obtain ⟨d, hd, h⟩ := Option.bind_eq_some_iff.mp h
  obtain ⟨g, hg, h⟩ := Option.bind_eq_some_iff.mp h
  split at h
  rotate_left
  · cases h
  rename_i hl
  cases h
  have c1 := zderive_ok B hd
  have c2 := zgcd_ok B hg
  have c3 := zdegree_ok B (p := g)
  refine CN.intro B ["f"] [("f", .val (pI f))] (by rfl) (by rfl) (by rfl) (by walk_at "bind") (by decide) (by decide) rfl rfl rfl rfl rfl (out := .ret (pI f)) ?_ (.inl rfl)
  walk_at "st"
  walk_at "st"
noncomputable def lessenedL (p : List Int) : Option (List Int) := (gcdAllL p).bind fun c => if 1 < c then zdividedL p c else some p
theorem lessened_ok {C : Cx} (B : Bd C) {p r : List Int} (h : lessenedL p = some r) : CN C 4 "lessened" [pI p] (pI r) := by
  unfold lessenedL at h
  obtain ⟨c, hc, h⟩ := Option.bind_eq_some_iff.mp h
  have c1 := zcontent_ok B hc
  refine CN.intro B ["p"] [("p", .val (pI p))] (by rfl) (by rfl) (by rfl) (by walk_at "bind") (by decide) (by decide) rfl rfl rfl rfl rfl (out := .ret (pI r)) ?_ (.inl rfl)
  walk_at "st"
  split at h
  · rename_i hgt
    unfold zdividedL at h
    split at h
    rotate_left
    · cases h
    rename_i hok
    refine EXs.ret (EX.return (EV.ifT (by walk_at "tst") ?_))
    refine EV.compX .int (ea := .int) ["content"] (by walk_at "rf") h (IT.list (by walk_at "ev")) ?_ (okL_le hok)
    intro a b e
    walk_at "ev"
  · rename_i hgt
    cases h
    walk_at "st"
noncomputable def nextOfRowL (a b : List Int) : Option (List Int) := (pseudoL a b).bind fun p => (modG p.2.2 2).bind fun m => if m = 1 ∧ zleadL b < 0 then lessenedL p.2.1 else (znegL p.2.1).bind fun q => lessenedL q
theorem next_of_row_ok {C : Cx} (B : Bd C) {a b r : List Int} (h : nextOfRowL a b = some r) : CN C 5 "next_of_row" [pI a, pI b] (pI r) := by
  unfold nextOfRowL at h
  obtain ⟨p, hp, h⟩ := Option.bind_eq_some_iff.mp h
  obtain ⟨m, hm, h⟩ := Option.bind_eq_some_iff.mp h
  have c1 := pseudo_ok B hp
  have c2 := zlead_ok B (p := b)
  refine CN.intro B ["a", "b"] [("a", .val (pI a)), ("b", .val (pI b))] (by rfl) (by rfl) (by rfl) (by walk_at "bind") (by decide) (by decide) rfl rfl rfl rfl rfl (out := .ret (pI r)) ?_ (.inl rfl)
  walk_at "st"
  split at h
  · rename_i hc
    have c3 := lessened_ok B h
    refine EXs.ifT (TS.conv (TS.and (a := true) (b := true) (TS.conv (by walk_at "ts") (by rw [hc.1]; rfl)) (fun _ => TS.conv (by walk_at "ts") (decide_eq_true hc.2))) rfl) ?_
    walk_at "st"
  · rename_i hc
    obtain ⟨q, hq, h⟩ := Option.bind_eq_some_iff.mp h
    have c3 := zneg_ok B hq
    have c4 := lessened_ok B h
    refine EXs.ifF ?_ ?_
    · by_cases hm1 : m = 1
      · refine TS.conv (TS.and (a := true) (b := false) (TS.conv (by walk_at "ts") (by rw [hm1]; rfl)) (fun _ => TS.conv (by walk_at "ts") (decide_eq_false fun hz => hc ⟨hm1, hz⟩))) rfl
      · refine TS.conv (TS.and (a := false) (b := false) (by walk_at "tst") (fun e => nomatch e)) rfl
    · walk_at "st"
noncomputable def sturmW : Nat → List (List Int) → List Int → Option (List (List Int))
  | 0, _, _ => none
  | k + 1, found, later => if later = [] then some found else if found.length ≤ 1000 then
      found.getLast?.bind fun prev => (nextOfRowL prev later).bind fun l' => sturmW k (found ++ [later]) l' else none
noncomputable def sturmL (f : List Int) : Option (List (List Int)) := (zderiveL f).bind fun d => sturmW 100 [f] d
theorem secondLast {α : Type} {l : List α} {a b : α} (h : l.getLast? = some a) : ((seqIndex? (-2) (l ++ [b]).length).bind fun j => (l ++ [b])[j]?) = some a := by
  have hne : l ≠ [] := fun e => by rw [e] at h; cases h
  have hl : 0 < l.length := List.length_pos_iff.mpr hne
  rw [show (-2 : Int) = -((2 : Nat) : Int) from rfl, seqIndex_neg (by omega) (by rw [List.length_append, List.length_singleton]; omega)]
  show (l ++ [b])[(l ++ [b]).length - 2]? = _
  have e : (l ++ [b]).length - 2 = l.length - 1 := by rw [List.length_append, List.length_singleton]; omega
  rw [e, List.getElem?_append_left (by omega), ← List.getLast?_eq_getElem?]; exact h
theorem sturm_row_ok {C : Cx} (B : Bd C) {f : List Int} {r : List (List Int)} (h : sturmL f = some r) : CN C 6 "sturm_row" [pI f] (.lst (r.map pI)) := by
  unfold sturmL at h
  obtain ⟨d, hd, h⟩ := Option.bind_eq_some_iff.mp h
  have c1 := zderive_ok B hd
  refine CN.intro B ["f"] [("f", .val (pI f))] (by rfl) (by rfl) (by rfl) (by walk_at "bind") (by decide) (by decide) rfl rfl rfl rfl rfl (out := .ret (.lst (r.map pI))) ?_ (.inl rfl)
  refine' EXs.cons (EX.sw2 (t1 := .own ([f].map pI)) ?h1 ?h2 ?h3 ?h4 ?h5 (by intro _; rfl) (by walk_at "sw")) ?h6
  case h1 =>
    refine' EVS.consO (EVO.list ?g1 (hl := of_decide_eq_true (by rfl))) ?g2
    case g1 => exact EVs.cons (by walk_at "ev") EVs.nil
    case g2 => walk_at "evS"
  case h2 => walk_at "upd"
  case h3 => walk_at "upd"
  case h4 => walk_at "loc"
  case h5 => walk_at "loc"
  generalize ([f] : List (List Int)) = found at h ⊢
  clear hd c1
  generalize 100 = k at h
  refine EXs.cons (r1 := [("found", .own (r.map pI))]) (EX.while ?_) ?_
  · refine WH.less (r1 := [("later", .val (pI d)), ("found", .own (found.map pI))]) (by walk_at "less") ?_
    induction k generalizing d found with
    | zero => cases h
    | succ k ih =>
      unfold sturmW at h
      split at h
      · rename_i hl
        subst hl
        cases h
        exact WH.outLess (by walk_at "less") (WH.done (TS.conv (by walk_at "ts") rfl))
      · rename_i hl
        split at h
        rotate_left
        · cases h
        rename_i hlen
        obtain ⟨prev, hprev, h⟩ := Option.bind_eq_some_iff.mp h
        obtain ⟨l', hl', h⟩ := Option.bind_eq_some_iff.mp h
        have c1 := next_of_row_ok B hl'
        have i1 : itemAt ((found ++ [d]).map pI) (-2) = some (pI prev) := itemM (secondLast hprev)
        have i2 : itemAt ((found ++ [d]).map pI) (-1) = some (pI d) := itemM (lastM (by simp))
        refine' WH.step (by walk_at "tst") ?b (ih _ _ h)
        case b =>
          walk_at "app"
          walk_at "st"
          exact EXs.nilL (by walk_at "less")
  · refine EXs.freeze (x := "found") (by walk_at "lk") (by walk_at "upd") ?_
    walk_at "st"
noncomputable def changesL (row : List (List Int)) (x : Int × Int) : Option Int := if okL row = true then (mapG (fun p => valueSignL p x) row).bind fun ss =>
  some ((((List.range ((ss.filter fun s => s != 0).length - 1)).filter fun i => (ss.filter fun s => s != 0).getD (1 + i) 0 != (ss.filter fun s => s != 0).getD i 0).length : Nat) : Int) else none
theorem changes_at_ok {C : Cx} (B : Bd C) {row : List (List Int)} {x : Int × Int} {r : Int} (h : changesL row x = some r) : CN C 4 "changes_at" [.lst (row.map pI), rV x] (.int r) := by
  unfold changesL at h
  split at h
  rotate_left
  · cases h
  rename_i hok
  obtain ⟨ss, hss, h⟩ := Option.bind_eq_some_iff.mp h
  cases h
  refine CN.intro B ["row", "x"] [("row", .val (.lst (row.map pI))), ("x", .val (rV x))] (by rfl) (by rfl) (by rfl) (by walk_at "bind") (by decide) (by decide) rfl rfl rfl rfl rfl (out := .ret (.int ((((List.range ((ss.filter fun s => s != 0).length - 1)).filter fun i => (ss.filter fun s => s != 0).getD (1 + i) 0 != (ss.filter fun s => s != 0).getD i 0).length : Nat) : Int))) ?_ (.inl rfl)
  have hrow := okL_le hok
  have hslen : ss.length ≤ 1000 := by rw [mapG_len hss]; exact hrow
  refine EXs.cons (r1 := [("row", .val (.lst (row.map pI))), ("x", .val (rV x)), ("signs", .val (pI ss))]) (EX.assign (EV.compX .int (ea := pI) ["x"] (by walk_at "rf") hss (IT.list (by walk_at "ev")) ?_ hrow) (by walk_at "upd") (by walk_at "loc") (hs := by walk_at "sw")) ?_
  · intro a b e
    have c1 := sign_at_ok B e
    walk_at "ev"
  refine EXs.cons (r1 := [("row", .val (.lst (row.map pI))), ("x", .val (rV x)), ("signs", .val (pI (ss.filter fun s => s != 0)))]) (EX.assign (EV.conv (EV.compY .int (ea := .int) (fun s => s != 0) id (l := ss) [] (by walk_at "rf") (IT.list (by walk_at "ev")) ?_ ?_ hslen) (by rw [List.map_id])) (by walk_at "upd") (by walk_at "loc") (hs := by walk_at "sw")) ?_
  · intro a ha
    show TS _ _ _ _ _ (a != 0)
    walk_at "ts"
  · intro a ha ht
    show EV _ _ _ _ _ (.int a)
    walk_at "ev"
  have hfl : (ss.filter fun s => s != 0).length ≤ 1000 := Nat.le_trans (List.length_filter_le ..) hslen
  generalize (ss.filter fun s => s != 0) = signs at hfl ⊢
  refine EXs.ret (EX.return ?_)
  refine EV.conv (EV.len B (EVs.cons (EV.compY .int (β := Int) (ea := fun i : Nat => .int (1 + (i : Int))) (fun i => signs.getD (1 + i) 0 != signs.getD i 0) (fun _ => 1) (l := List.range (signs.length - 1)) ["signs"] (by walk_at "rf") ?_ ?_ ?_ (by rw [List.length_range]; omega)) EVs.nil) (by intro _; rfl) (by intro _ _; rfl) (by rfl) BI.lenM) (by rw [List.length_map])
  · refine IT.conv (IT.range2 (a := 1) (b := (signs.length : Int)) (by walk_at "ev") (by walk_at "ev") (by omega) (by omega) (by omega) (by unfold cap; omega) (by rfl) (nb_range B) bb_range) ?_
    have : ((signs.length : Int) - 1).toNat = signs.length - 1 := by omega
    rw [this]; rfl
  · intro i hi
    have hlt : i < signs.length - 1 := List.mem_range.mp hi
    have i1 : itemI signs (1 + (i : Int)) = some (signs.getD (1 + i) 0) := itemI_nat (by omega) (by omega)
    have i2 : itemI signs (1 + (i : Int) - 1) = some (signs.getD i 0) := itemI_nat (by omega) (by omega)
    show TS _ _ _ _ _ (signs.getD (1 + i) 0 != signs.getD i 0)
    walk_at "ts"
  · intro i hi ht
    show EV _ _ _ _ _ (.int 1)
    walk_at "ev"
noncomputable def countL (row : List (List Int)) (low high : Int × Int) : Option Int := (changesL row low).bind fun a => (changesL row high).bind fun b => some (a - b)
theorem count_by_row_ok {C : Cx} (B : Bd C) {row : List (List Int)} {x y : Int × Int} {r : Int} (h : countL row x y = some r) : CN C 5 "count_by_row" [.lst (row.map pI), rV x, rV y] (.int r) := by
  unfold countL at h
  obtain ⟨a, ha, h⟩ := Option.bind_eq_some_iff.mp h
  obtain ⟨b, hb, h⟩ := Option.bind_eq_some_iff.mp h
  cases h
  have c1 := changes_at_ok B ha
  have c2 := changes_at_ok B hb
  refine CN.intro B ["row", "low", "high"] [("row", .val (.lst (row.map pI))), ("low", .val (rV x)), ("high", .val (rV y))] (by rfl) (by rfl) (by rfl) (by walk_at "bind") (by decide) (by decide) rfl rfl rfl rfl rfl (out := .ret (.int (a - b))) ?_ (.inl rfl)
  walk_at "st"
noncomputable def rootBoundL (f : List Int) : Option Int := if okL f = true ∧ f ≠ [] then (divG (maxI (f.map absI)) (absI (zleadL f))).bind fun q => some (2 + q) else none
theorem root_bound_ok {C : Cx} (B : Bd C) {f : List Int} {r : Int} (h : rootBoundL f = some r) : CN C 2 "root_bound" [pI f] (.int r) := by
  unfold rootBoundL at h
  split at h
  rotate_left
  · cases h
  rename_i hc
  obtain ⟨q, hq, h⟩ := Option.bind_eq_some_iff.mp h
  cases h
  have c1 := zlead_ok B (p := f)
  refine CN.intro B ["f"] [("f", .val (pI f))] (by rfl) (by rfl) (by rfl) (by walk_at "bind") (by decide) (by decide) rfl rfl rfl rfl rfl (out := .ret (.int (2 + q))) ?_ (.inl rfl)
  refine EXs.cons (r1 := [("f", .val (pI f)), ("most", .val (.int (maxI (f.map absI))))]) (EX.assign (EV.max B (EVs.cons (EV.compX .int (ea := .int) [] (by walk_at "rf") (mapG_some absI f) (IT.list (by walk_at "ev")) ?_ (okL_le hc.1)) EVs.nil) (by intro _; rfl) (by intro _ _; rfl) (by rfl) (BI.maxL (by simpa using hc.2))) (by walk_at "upd") (by walk_at "loc") (hs := by walk_at "sw")) ?_
  · intro a b e
    cases e
    walk_at "ev"
  walk_at "st"
theorem HALF_at {C : Cx} (B : Bd C) : ∃ v, C.mg "HALF" = some v ∧ Rep C.b0.get? v (rV (1, 2)) := by
  refine ⟨_, mg_of B C.g (by rfl), ?_⟩
  unfold Rep
  exact ⟨_, [_, _], rfl, B _ _ (by rfl), Reps.cons rep_int (Reps.cons rep_int Reps.nil), of_decide_eq_true (by rfl)⟩
theorem R0_at {C : Cx} (B : Bd C) : ∃ v, C.mg "R0" = some v ∧ Rep C.b0.get? v (rV (0, 1)) := by
  refine ⟨_, mg_of B C.g (by rfl), ?_⟩
  unfold Rep
  exact ⟨_, [_, _], rfl, B _ _ (by rfl), Reps.cons rep_int (Reps.cons rep_int Reps.nil), of_decide_eq_true (by rfl)⟩
noncomputable def middleL (low high : Int × Int) : Option (Int × Int) := (raddL low high).bind fun s => rmulL s (1, 2)
theorem middle_ok {C : Cx} (B : Bd C) {a b r : Int × Int} (h : middleL a b = some r) : CN C 4 "middle" [rV a, rV b] (rV r) := by
  unfold middleL at h
  obtain ⟨s, hs, h⟩ := Option.bind_eq_some_iff.mp h
  have c1 := radd_ok B hs
  have c2 := rmul_ok B h
  obtain ⟨v, hv, hr⟩ := HALF_at B
  refine CN.intro B ["low", "high"] [("low", .val (rV a)), ("high", .val (rV b))] (by rfl) (by rfl) (by rfl) (by walk_at "bind") (by decide) (by decide) rfl rfl rfl rfl rfl (out := .ret (rV r)) ?_ (.inl rfl)
  refine EXs.ret (EX.return (EV.callN (by rfl) (EVs.cons (by walk_at "ev") (EVs.cons (EV.glob (by rfl) hv hr) EVs.nil)) c2 (by decide)))
noncomputable def linearL (x : Int × Int) : List Int := [-x.1, x.2]
theorem linear_of_ok {C : Cx} (B : Bd C) {x : Int × Int} : CN C 1 "linear_of" [rV x] (pI (linearL x)) := by
  refine CN.intro B ["x"] [("x", .val (rV x))] (by rfl) (by rfl) (by rfl) (by walk_at "bind") (by decide) (by decide) rfl rfl rfl rfl rfl (out := .ret (.lst [.int (-x.1), .int x.2])) ?_ (.inl rfl)
  walk_at "st"
noncomputable def isInsideL (x : Int × Int) (iv : (Int × Int) × (Int × Int)) : Option Bool := (rcompareL iv.1 x).bind fun u => (rcompareL x iv.2).bind fun v => some (decide (u ≤ 0) && decide (v ≤ 0))
theorem is_inside_ok {C : Cx} (B : Bd C) {x : Int × Int} {iv : (Int × Int) × (Int × Int)} {r : Bool} (h : isInsideL x iv = some r) : CN C 2 "is_inside" [rV x, ivV iv] (.bool r) := by
  unfold isInsideL at h
  obtain ⟨u, hu, h⟩ := Option.bind_eq_some_iff.mp h
  obtain ⟨v, hv, h⟩ := Option.bind_eq_some_iff.mp h
  cases h
  have c1 := rcompare_ok B hu
  have c2 := rcompare_ok B hv
  refine CN.intro B ["x", "interval"] [("x", .val (rV x)), ("interval", .val (ivV iv))] (by rfl) (by rfl) (by rfl) (by walk_at "bind") (by decide) (by decide) rfl rfl rfl rfl rfl (out := .ret (.bool (decide (u ≤ 0) && decide (v ≤ 0)))) ?_ (.inl rfl)
  exact EXs.ret (EX.return (EV.and (by walk_at "ev") (fun _ => by walk_at "ev")))
noncomputable def halvedL (f : List Int) (iv : (Int × Int) × (Int × Int)) : Option ((Int × Int) × (Int × Int)) := (middleL iv.1 iv.2).bind fun x => (valueSignL f x).bind fun here => if here = 0 then some (x, x) else
  (valueSignL f iv.1).bind fun s => if here = s then some (x, iv.2) else some (iv.1, x)
theorem halved_ok {C : Cx} (B : Bd C) {f : List Int} {iv r : (Int × Int) × (Int × Int)} (h : halvedL f iv = some r) : CN C 5 "halved" [pI f, ivV iv] (ivV r) := by
  unfold halvedL at h
  obtain ⟨x, hx, h⟩ := Option.bind_eq_some_iff.mp h
  obtain ⟨here, hh, h⟩ := Option.bind_eq_some_iff.mp h
  have c1 := middle_ok B hx
  have c2 := value_sign_ok B hh
  split at h
  · rename_i h0
    cases h
    refine CN.intro B ["f", "interval"] [("f", .val (pI f)), ("interval", .val (ivV iv))] (by rfl) (by rfl) (by rfl) (by walk_at "bind") (by decide) (by decide) rfl rfl rfl rfl rfl (out := .ret (.tup [rV x, rV x])) ?_ (.inl rfl)
    walk_at "st"
    walk_at "st"
    walk_at "st"
    refine EXs.ifT (by walk_at "tst") ?_
    walk_at "st"
  · rename_i h0
    obtain ⟨s, hs, h⟩ := Option.bind_eq_some_iff.mp h
    have c3 := value_sign_ok B hs
    split at h
    · rename_i h1
      subst h1
      cases h
      refine CN.intro B ["f", "interval"] [("f", .val (pI f)), ("interval", .val (ivV iv))] (by rfl) (by rfl) (by rfl) (by walk_at "bind") (by decide) (by decide) rfl rfl rfl rfl rfl (out := .ret (.tup [rV x, rV iv.2])) ?_ (.inl rfl)
      walk_at "st"
      walk_at "st"
      walk_at "st"
      refine EXs.ifF (by walk_at "tst") ?_
      exact EXs.ret (EX.return (EV.ifT (TS.conv (by walk_at "ts") (by simp)) (by walk_at "ev")))
    · rename_i h1
      cases h
      refine CN.intro B ["f", "interval"] [("f", .val (pI f)), ("interval", .val (ivV iv))] (by rfl) (by rfl) (by rfl) (by walk_at "bind") (by decide) (by decide) rfl rfl rfl rfl rfl (out := .ret (.tup [rV iv.1, rV x])) ?_ (.inl rfl)
      walk_at "st"
      walk_at "st"
      walk_at "st"
      refine EXs.ifF (by walk_at "tst") ?_
      exact EXs.ret (EX.return (EV.ifF (TS.conv (by walk_at "ts") (by simp [h1])) (by walk_at "ev")))
noncomputable def keptW : Nat → List Int → List (Int × Int) → (Int × Int) × (Int × Int) → Option ((Int × Int) × (Int × Int))
  | 0, _, _, _ => none
  | k + 1, f, ns, iv => if iv.1 = iv.2 then some iv else (mapG (fun x => isInsideL x iv) ns).bind fun bs => if bs.any id = true then (halvedL f iv).bind fun iv' => keptW k f ns iv' else some iv
noncomputable def keptL (f : List Int) (ns : List (Int × Int)) (iv : (Int × Int) × (Int × Int)) : Option ((Int × Int) × (Int × Int)) := if okL ns = true then keptW 100 f ns iv else none
theorem kept_off_ok {C : Cx} (B : Bd C) {f : List Int} {ns : List (Int × Int)} {iv r : (Int × Int) × (Int × Int)} (h : keptL f ns iv = some r) : CN C 6 "kept_off" [pI f, ivV iv, .lst (ns.map rV)] (ivV r) := by
  unfold keptL at h
  split at h
  rotate_left
  · cases h
  rename_i hok
  have hns := okL_le hok
  refine CN.intro B ["f", "interval", "numbers"] [("f", .val (pI f)), ("interval", .val (ivV iv)), ("numbers", .val (.lst (ns.map rV)))] (by rfl) (by rfl) (by rfl) (by walk_at "bind") (by decide) (by decide) rfl rfl rfl rfl rfl (out := .ret (ivV r)) ?_ (.inl rfl)
  generalize 100 = k at h
  refine EXs.cons (r1 := [("f", .val (pI f)), ("interval", .val (ivV r)), ("numbers", .val (.lst (ns.map rV)))]) (EX.while ?_) (by walk_at "st")
  induction k generalizing iv with
  | zero => cases h
  | succ k ih =>
    unfold keptW at h
    split at h
    · rename_i he
      cases h
      exact WH.done (TS.conv (TS.and (a := false) (b := false) (TS.conv (by walk_at "ts") (by simp [he])) (fun e => nomatch e)) rfl)
    · rename_i he
      obtain ⟨bs, hbs, h⟩ := Option.bind_eq_some_iff.mp h
      split at h
      · rename_i ht
        obtain ⟨iv', hiv, h⟩ := Option.bind_eq_some_iff.mp h
        have c2 := halved_ok B hiv
        refine' WH.step (TS.conv (TS.and (a := true) (b := true) (TS.conv (by walk_at "ts") (by simp [he])) (fun _ => TS.val (EV.conv (EV.any B (EVs.cons (EV.compX .bool (ea := rV) ["interval"] (by walk_at "rf") hbs (IT.list (by walk_at "ev")) ?el hns) EVs.nil) (by intro _; rfl) (by intro _ _; rfl) (by rfl) BI.any) (by rw [ht])))) rfl) ?b (ih h)
        case el =>
          intro a b e
          have c1 := is_inside_ok B e
          walk_at "ev"
        case b =>
          walk_at "st"
          walk_at "st"
      · rename_i ht
        cases h
        refine' WH.done (TS.conv (TS.and (a := true) (b := false) (TS.conv (by walk_at "ts") (by simp [he])) (fun _ => TS.val (EV.conv (EV.any B (EVs.cons (EV.compX .bool (ea := rV) ["interval"] (by walk_at "rf") hbs (IT.list (by walk_at "ev")) ?el hns) EVs.nil) (by intro _; rfl) (by intro _ _; rfl) (by rfl) BI.any) (by rw [Bool.eq_false_iff.mpr ht])))) rfl)
        case el =>
          intro a b e
          have c1 := is_inside_ok B e
          walk_at "ev"
noncomputable abbrev Iv : Type := (Int × Int) × (Int × Int)
noncomputable def insW : Nat → List Iv → Iv → Nat → Option Nat
  | 0, _, _, _ => none
  | k + 1, found, p, i => if i < found.length then (rcompareL (found.getD i ((0, 0), (0, 0))).2 p.2).bind fun u => if u < 0 then insW k found p (i + 1) else some i else some i
noncomputable def sortedW : List Iv → List Iv → Option (List Iv)
  | [], found => some found
  | p :: ps, found => (insW 100 found p 0).bind fun i => if i ≤ found.length ∧ found.length ≤ 1000 then sortedW ps (found.take i ++ p :: found.drop i) else none
theorem itemN {α : Type} {l : List α} {d : α} {j : Nat} (hj : j < l.length) : ((seqIndex? (j : Int) l.length).bind fun j => l[j]?) = some (l.getD j d) := by
  rw [seqIndex_nat hj]
  show l[j]? = _
  rw [List.getElem?_eq_getElem hj, List.getD_eq_getElem?_getD, List.getElem?_eq_getElem hj]; rfl
theorem sorted_ok {C : Cx} (B : Bd C) {ps r : List Iv} (h : sortedW ps [] = some r) : CN C 3 "sorted_intervals" [.lst (ps.map ivV)] (.lst (r.map ivV)) := by
  refine CN.intro B ["pieces"] [("pieces", .val (.lst (ps.map ivV)))] (by rfl) (by rfl) (by rfl) (by walk_at "bind") (by decide) (by decide) rfl rfl rfl rfl rfl (out := .ret (.lst (r.map ivV))) ?_ (.inl rfl)
  refine' EXs.cons (EX.assignO (ds := ([] : List Iv).map ivV) (EVO.list EVs.nil) ?u ?k) ?h
  case u => walk_at "upd"
  case k => walk_at "loc"
  refine EXs.cons (r1 := [("found", .own (r.map ivV))]) (EX.for (all := ps.map ivV) (IT.list (by walk_at "ev")) ?_) ?_
  · refine FL.ind (fun xs rr => ∃ fs : List Iv, Less rr [("found", .own (fs.map ivV))] ∧ sortedW xs fs = some r) (by walk_at "loc") ⟨[], by walk_at "less", h⟩ ?_ ?_
    · rintro p xs rr ⟨fs, hl, hf⟩
      unfold sortedW at hf
      obtain ⟨i, hi, hf⟩ := Option.bind_eq_some_iff.mp hf
      split at hf
      rotate_left
      · cases hf
      rename_i hc
      refine' ⟨_, _, UPD.less hl (by walk_at "upd"), ?b, fs.take i ++ p :: fs.drop i, ?l, hf⟩
      case b =>
        walk_at "st"
        refine EXs.cons (r1 := [("found", .own (fs.map ivV)), ("piece", .val (ivV p)), ("at", .val (.int (i : Nat)))]) (EX.while ?_) ?_
        · obtain ⟨j, hj⟩ : ∃ j : Nat, 0 = j := ⟨_, rfl⟩
          have hi' : insW 100 fs p j = some i := hj ▸ hi
          refine WH.less (r1 := [("found", .own (fs.map ivV)), ("piece", .val (ivV p)), ("at", .val (.int (j : Nat)))]) (by rw [← hj]; exact Less.refl) ?_
          generalize 100 = k at hi'
          clear hj hi
          induction k generalizing j with
          | zero => cases hi'
          | succ k ih =>
            unfold insW at hi'
            split at hi'
            · rename_i hlt
              obtain ⟨u, hu, hi'⟩ := Option.bind_eq_some_iff.mp hi'
              have c1 := rcompare_ok B hu
              have i1 : itemAt (fs.map ivV) (j : Int) = some (ivV (fs.getD j ((0, 0), (0, 0)))) := itemM (itemN hlt)
              split at hi'
              · rename_i hu0
                refine' WH.step (TS.conv (TS.and (a := true) (b := true) (TS.conv (by walk_at "ts") (decide_eq_true (by omega))) (fun _ => TS.conv (by walk_at "ts") (decide_eq_true hu0))) rfl) ?b (ih (j + 1) hi')
                case b =>
                  have e : ((j + 1 : Nat) : Int) = (j : Int) + 1 := by omega
                  rw [e]
                  walk_at "st"
                  walk_at "st"
              · rename_i hu0
                cases hi'
                exact WH.done (TS.conv (TS.and (a := true) (b := false) (TS.conv (by walk_at "ts") (decide_eq_true (by omega))) (fun _ => TS.conv (by walk_at "ts") (decide_eq_false hu0))) rfl)
            · rename_i hlt
              cases hi'
              exact WH.done (TS.conv (TS.and (a := false) (b := false) (TS.conv (by walk_at "ts") (decide_eq_false (by omega))) (fun e => nomatch e)) rfl)
        · refine' EXs.cons (EX.insertM ?j1 ?j2 ?j3 hc.1 ?j4 ?j5 (by rfl) (by intro _; rfl) (by intro _; rfl) (by decide) (by decide)) ?j6
          case j1 => walk_at "lk"
          case j2 => walk_at "ev"
          case j3 => walk_at "ev"
          case j4 => unfold cap; omega
          case j5 => walk_at "upd"
          walk_at "st"
      case l => walk_at "less"
    · rintro rr ⟨fs, hl, hf⟩
      cases hf
      exact hl
  · refine EXs.freeze (x := "found") (by walk_at "lk") (by walk_at "upd") ?_
    walk_at "st"
noncomputable def splitW : Nat → List Int → List (List Int) → List Iv → List Iv → Option (List Iv × Option (Int × Int))
  | 0, _, _, _, _ => none
  | k + 1, f, row, st, found => match st with
    | [] => some (found, none)
    | iv :: st' => (countL row iv.1 iv.2).bind fun many =>
      if many = 1 then (if found.length ≤ 1000 then splitW k f row st' (found ++ [iv]) else none)
      else if 1 < many then (middleL iv.1 iv.2).bind fun x => (valueSignL f x).bind fun s => if s = 0 then some ([], some x) else (if st'.length ≤ 1000 then splitW k f row ((iv.1, x) :: (x, iv.2) :: st') found else none)
      else splitW k f row st' found
noncomputable def splitL (f : List Int) : Option (List Iv × Option (Int × Int)) := (sturmL f).bind fun row => (rootBoundL f).bind fun bound => splitW 100 f row [((-bound, 1), (bound, 1))] []
noncomputable def metV : Option (Int × Int) → V
  | none => .none
  | some x => rV x
noncomputable abbrev spV (r : List Iv × Option (Int × Int)) : V := .tup [.lst (r.1.map ivV), metV r.2]
theorem EXs.whileO {C : Cx} {n : Nat} {sc : Scope} {r : List (Str × Sl)} {met : Bool} {r1 : List (Str × Sl)} {d : V} {t : Expr} {body ss : List Stmt} {pos : Pos} (h1 : WH C n sc r t body (if met = true then .ret d else .next r1)) (h2 : met = false → EXs C n sc r1 ss (.ret d)) : EXs C n sc r (.While t body [] pos :: ss) (.ret d) := by
  cases met with
  | false => exact EXs.cons (EX.while h1) (h2 rfl)
  | true => exact EXs.ret (EX.while h1)
theorem split_roots_ok {C : Cx} (B : Bd C) {f : List Int} {r : List Iv × Option (Int × Int)} (h : splitL f = some r) : CN C 7 "split_roots" [pI f] (spV r) := by
  unfold splitL at h
  obtain ⟨row, hrow, h⟩ := Option.bind_eq_some_iff.mp h
  obtain ⟨bound, hbound, h⟩ := Option.bind_eq_some_iff.mp h
  have c1 := sturm_row_ok B hrow
  have c2 := root_bound_ok B hbound
  refine CN.intro B ["f"] [("f", .val (pI f))] (by rfl) (by rfl) (by rfl) (by walk_at "bind") (by decide) (by decide) rfl rfl rfl rfl rfl (out := .ret (spV r)) ?_ (.inl rfl)
  walk_at "st"
  refine' EXs.cons (EX.sw2 (t1 := .own (([((-bound, 1), (bound, 1))] : List Iv).map ivV)) (t2 := .own (([] : List Iv).map ivV)) ?h1 ?h2 ?h3 ?h4 ?h5 (by intro _; rfl) (by walk_at "sw")) ?h6
  case h1 =>
    refine' EVS.consO (EVO.list ?g1 (hl := of_decide_eq_true (by rfl))) (EVS.consO (EVO.list EVs.nil) EVS.nil)
    case g1 => exact EVs.cons (by walk_at "ev") EVs.nil
  case h2 => walk_at "upd"
  case h3 => walk_at "upd"
  case h4 => walk_at "loc"
  case h5 => walk_at "loc"
  have hst : ([((-bound, 1), (bound, 1))] : List Iv) = [((-bound, 1), (bound, 1))].reverse := rfl
  rw [hst]
  generalize ([((-bound, 1), (bound, 1))] : List Iv) = st at h ⊢
  generalize ([] : List Iv) = found at h ⊢
  clear hst c1 c2 hrow hbound
  generalize 100 = k at h
  obtain ⟨fs, met⟩ := r
  refine EXs.whileO (met := met.isSome) (r1 := [("found", .own (fs.map ivV))]) (WH.less (r1 := [("f", .val (pI f)), ("row", .val (.lst (row.map pI))), ("found", .own (found.map ivV)), ("waiting", .own (st.reverse.map ivV))]) (by walk_at "less") ?_) ?_
  · induction k generalizing st found with
    | zero => cases h
    | succ k ih =>
      unfold splitW at h
      cases st with
      | nil =>
        cases h
        refine' WH.outLess ?ln1 (WH.done (TS.borrow (x := "waiting") (ds := ([] : List Iv).reverse.map ivV) ?kn1 (TS.conv ?tn1 ?en1)))
        case kn1 => walk_at "lk"
        case tn1 => walk_at "ts"
        case en1 => rfl
        case ln1 => walk_at "less"
      | cons iv st =>
        replace h : ((countL row iv.1 iv.2).bind fun many =>
          if many = 1 then (if found.length ≤ 1000 then splitW k f row st (found ++ [iv]) else none)
          else if 1 < many then (middleL iv.1 iv.2).bind fun x => (valueSignL f x).bind fun s => if s = 0 then some ([], some x) else (if st.length ≤ 1000 then splitW k f row ((iv.1, x) :: (x, iv.2) :: st) found else none)
          else splitW k f row st found) = some (fs, met) := h
        obtain ⟨many, hm, h⟩ := Option.bind_eq_some_iff.mp h
        have c1 := count_by_row_ok B hm
        split at h
        · rename_i h1
          split at h
          rotate_left
          · cases h
          rename_i hlen
          refine' WH.step (r1 := [("f", .val (pI f)), ("row", .val (.lst (row.map pI))), ("found", .own ((found ++ [iv]).map ivV)), ("waiting", .own (st.reverse.map ivV))]) (TS.borrow (x := "waiting") (ds := (iv :: st).reverse.map ivV) ?kn2 (TS.conv ?tn2 ?en2)) ?bn2 (ih _ _ h)
          case kn2 => walk_at "lk"
          case tn2 => walk_at "ts"
          case en2 => simp
          case bn2 =>
            refine' EXs.cons (EX.popM ?p1n2 ?p2n2 ?p3n2 ?p4n2 ?p5n2 ?p6n2 (by rfl) (by intro _; rfl) (by intro _; rfl) (by decide) (by decide)) ?p7n2
            case p1n2 => walk_at "lk"
            case p2n2 => walk_at "upd"
            case p3n2 => walk_at "upd"
            case p4n2 => walk_at "upd"
            case p5n2 => walk_at "loc"
            case p6n2 => walk_at "loc"
            walk_at "st"
            refine' EXs.ifN (TS.conv (by walk_at "ts") (by simp [h1])) ?q1n2 ?q2n2
            case q1n2 =>
              refine' EXs.cons (EX.appendM (a := iv) ?a1n2 ?a2n2 ?a3n2 ?a4n2 (by rfl) (by intro _; rfl) (by intro _; rfl) (by decide) (by decide)) ?a5n2
              case a1n2 => walk_at "lk"
              case a2n2 => walk_at "ev"
              case a3n2 => unfold cap; omega
              case a4n2 => walk_at "upd"
              walk_at "st"
            exact EXs.nilL (by walk_at "less")
        · rename_i h1
          split at h
          · rename_i h2
            obtain ⟨x, hx, h⟩ := Option.bind_eq_some_iff.mp h
            obtain ⟨s, hs, h⟩ := Option.bind_eq_some_iff.mp h
            have c2 := middle_ok B hx
            have c3 := value_sign_ok B hs
            split at h
            · rename_i h0
              cases h
              refine' WH.ret (TS.borrow (x := "waiting") (ds := (iv :: st).reverse.map ivV) ?kn3 (TS.conv ?tn3 ?en3)) ?bn3
              case kn3 => walk_at "lk"
              case tn3 => walk_at "ts"
              case en3 => simp
              case bn3 =>
                refine' EXs.cons (EX.popM ?p1n3 ?p2n3 ?p3n3 ?p4n3 ?p5n3 ?p6n3 (by rfl) (by intro _; rfl) (by intro _; rfl) (by decide) (by decide)) ?p7n3
                case p1n3 => walk_at "lk"
                case p2n3 => walk_at "upd"
                case p3n3 => walk_at "upd"
                case p4n3 => walk_at "upd"
                case p5n3 => walk_at "loc"
                case p6n3 => walk_at "loc"
                walk_at "st"
                refine EXs.ifR (TS.conv (by walk_at "ts") (by simp [h1])) (EXs.ifT (TS.conv (by walk_at "ts") (by simp [h2])) ?_)
                walk_at "st"
                refine EXs.ifT (TS.conv (by walk_at "ts") (by simp [h0])) ?_
                show EXs _ _ _ _ _ (.ret (.tup [.lst [], rV x]))
                walk_at "st"
            · rename_i h0
              split at h
              rotate_left
              · cases h
              rename_i hlen
              have e1 : (st.reverse ++ [(x, iv.2)]) ++ [(iv.1, x)] = ((iv.1, x) :: (x, iv.2) :: st).reverse := by simp
              refine' WH.step (r1 := [("f", .val (pI f)), ("row", .val (.lst (row.map pI))), ("found", .own (found.map ivV)), ("waiting", .own (((st.reverse ++ [(x, iv.2)]) ++ [(iv.1, x)]).map ivV))]) (TS.borrow (x := "waiting") (ds := (iv :: st).reverse.map ivV) ?kn4 (TS.conv ?tn4 ?en4)) ?bn4 ?wn4
              case kn4 => walk_at "lk"
              case tn4 => walk_at "ts"
              case en4 => simp
              case wn4 => rw [e1]; exact ih _ _ h
              case bn4 =>
                refine' EXs.cons (EX.popM ?p1n4 ?p2n4 ?p3n4 ?p4n4 ?p5n4 ?p6n4 (by rfl) (by intro _; rfl) (by intro _; rfl) (by decide) (by decide)) ?p7n4
                case p1n4 => walk_at "lk"
                case p2n4 => walk_at "upd"
                case p3n4 => walk_at "upd"
                case p4n4 => walk_at "upd"
                case p5n4 => walk_at "loc"
                case p6n4 => walk_at "loc"
                walk_at "st"
                refine' EXs.ifO (TS.conv (by walk_at "ts") (by simp [h1])) ?q1n4 ?q2n4
                case q1n4 =>
                  refine' EXs.ifN (TS.conv (by walk_at "ts") (by simp [h2])) ?s1n4 ?s2n4
                  case s1n4 =>
                    walk_at "st"
                    refine EXs.ifF (TS.conv (by walk_at "ts") (by simp [h0])) ?_
                    refine' EXs.cons (EX.appendM (a := (x, iv.2)) ?a1n4 ?a2n4 ?a3n4 ?a4n4 (by rfl) (by intro _; rfl) (by intro _; rfl) (by decide) (by decide)) ?a5n4
                    case a1n4 => walk_at "lk"
                    case a2n4 => show EV _ _ _ _ _ (.tup [rV x, rV iv.2]); walk_at "ev"
                    case a3n4 => rw [List.length_reverse]; unfold cap; omega
                    case a4n4 => walk_at "upd"
                    refine' EXs.cons (EX.appendM (a := (iv.1, x)) ?a1n5 ?a2n5 ?a3n5 ?a4n5 (by rfl) (by intro _; rfl) (by intro _; rfl) (by decide) (by decide)) ?a5n5
                    case a1n5 => walk_at "lk"
                    case a2n5 => show EV _ _ _ _ _ (.tup [rV iv.1, rV x]); walk_at "ev"
                    case a3n5 => rw [List.length_append, List.length_reverse]; unfold cap; show st.length + 1 + 1 ≤ 1000000; omega
                    case a4n5 => walk_at "upd"
                    walk_at "st"
                  case s2n4 => exact EXs.nil
                exact EXs.nilL (by walk_at "less")
          · rename_i h2
            refine' WH.step (r1 := [("f", .val (pI f)), ("row", .val (.lst (row.map pI))), ("found", .own (found.map ivV)), ("waiting", .own (st.reverse.map ivV))]) (TS.borrow (x := "waiting") (ds := (iv :: st).reverse.map ivV) ?kn6 (TS.conv ?tn6 ?en6)) ?bn6 (ih _ _ h)
            case kn6 => walk_at "lk"
            case tn6 => walk_at "ts"
            case en6 => simp
            case bn6 =>
              refine' EXs.cons (EX.popM ?p1n6 ?p2n6 ?p3n6 ?p4n6 ?p5n6 ?p6n6 (by rfl) (by intro _; rfl) (by intro _; rfl) (by decide) (by decide)) ?p7n6
              case p1n6 => walk_at "lk"
              case p2n6 => walk_at "upd"
              case p3n6 => walk_at "upd"
              case p4n6 => walk_at "upd"
              case p5n6 => walk_at "loc"
              case p6n6 => walk_at "loc"
              walk_at "st"
              refine' EXs.ifO (TS.conv (by walk_at "ts") (by simp [h1])) ?q1n6 ?q2n6
              case q1n6 => exact EXs.ifF (TS.conv (by walk_at "ts") (by simp [h2])) EXs.nil
              exact EXs.nilL (by walk_at "less")
  · intro hm
    cases met with
    | some x => cases hm
    | none =>
      refine EXs.freeze (x := "found") (by walk_at "lk") (by walk_at "upd") ?_
      show EXs _ _ _ _ _ (.ret (.tup [.lst (fs.map ivV), .none]))
      walk_at "st"
noncomputable def splitOrL (left : List Int) : Option (List Iv × Option (Int × Int)) := if 1 < left.length then splitL left else some ([], none)
noncomputable def isoW : Nat → List Int → List (Int × Int) → List Iv × Option (Int × Int) → Option (List Int × List (Int × Int) × List Iv)
  | 0, _, _, _ => none
  | k + 1, left, exact, fm => match fm.2 with
    | none => some (left, exact, fm.1)
    | some x => if exact.length ≤ 1000 then (zexactL left (linearL x)).bind fun left' => (splitOrL left').bind fun fm' => isoW k left' (exact ++ [x]) fm' else none
noncomputable def isolateL (f : List Int) : Option (List Iv) := if f ≠ [] then (simplePartL f).bind fun left => (splitOrL left).bind fun fm => (isoW 100 left [] fm).bind fun t =>
  if okL t.2.1 = true ∧ okL t.2.2 = true then (mapG (fun iv => keptL t.1 t.2.1 iv) t.2.2).bind fun ks => sortedW (t.2.1.map (fun x => (x, x)) ++ ks) [] else none else none
theorem isolate_ok {C : Cx} (B : Bd C) {f : List Int} {r : List Iv} (h : isolateL f = some r) : CN C 9 "isolate" [pI f] (.lst (r.map ivV)) := by
  unfold isolateL at h
  split at h
  rotate_left
  · cases h
  rename_i hf
  obtain ⟨left, hleft, h⟩ := Option.bind_eq_some_iff.mp h
  obtain ⟨fm, hfm, h⟩ := Option.bind_eq_some_iff.mp h
  obtain ⟨t, ht, h⟩ := Option.bind_eq_some_iff.mp h
  split at h
  rotate_left
  · cases h
  rename_i hok
  obtain ⟨ks, hks, h⟩ := Option.bind_eq_some_iff.mp h
  have c1 := simple_part_ok B hleft
  have c2 := sorted_ok B h
  refine CN.intro B ["f"] [("f", .val (pI f))] (by rfl) (by rfl) (by rfl) (by walk_at "bind") (by decide) (by decide) rfl rfl rfl rfl rfl (out := .ret (.lst (r.map ivV))) ?_ (.inl rfl)
  refine EXs.ifF (TS.conv (by walk_at "ts") (by simp [hf])) ?_
  refine' EXs.cons (EX.in2 (t1 := .val (pI left)) (t2 := .own (([] : List (Int × Int)).map rV)) ?h1 ?h2 ?h3 ?h4 ?h5 (by intro _; rfl) (by walk_at "sw")) ?h6
  case h1 =>
    refine' EVS.consV ?g1 (EVS.consO (EVO.list EVs.nil) EVS.nil)
    case g1 => walk_at "ev"
  case h2 => walk_at "upd"
  case h3 => walk_at "upd"
  case h4 => walk_at "loc"
  case h5 => walk_at "loc"
  have cd := zdegree_ok B (p := left)
  refine' EXs.cons (EX.v2 (d1 := .lst (fm.1.map ivV)) (d2 := metV fm.2) ?i1 ?i2 ?i3 ?i4 ?i5 (by intro _; rfl) (by walk_at "sw")) ?i6
  case i1 =>
    unfold splitOrL at hfm
    split at hfm
    · rename_i hl
      have c3 := split_roots_ok B hfm
      refine EV.ifT (TS.conv (by walk_at "ts") (decide_eq_true (by omega))) ?_
      show EV _ _ _ _ _ (spV fm)
      walk_at "ev"
    · rename_i hl
      cases hfm
      refine EV.ifF (TS.conv (by walk_at "ts") (decide_eq_false (by omega))) ?_
      show EV _ _ _ _ _ (.tup [.lst [], .none])
      walk_at "ev"
  case i2 => walk_at "upd"
  case i3 => walk_at "upd"
  case i4 => walk_at "loc"
  case i5 => walk_at "loc"
  obtain ⟨l9, e9, f9⟩ := t
  refine EXs.cons (r1 := [("left", .val (pI l9)), ("exact", .own (e9.map rV)), ("found", .val (.lst (f9.map ivV)))]) (EX.while ?_) ?_
  · refine WH.less (r1 := [("left", .val (pI left)), ("exact", .own (([] : List (Int × Int)).map rV)), ("found", .val (.lst (fm.1.map ivV))), ("met", .val (metV fm.2))]) (by walk_at "less") ?_
    generalize ([] : List (Int × Int)) = ex at ht ⊢
    generalize 100 = k at ht
    obtain ⟨lf, hlf⟩ : ∃ lf, left = lf := ⟨_, rfl⟩
    obtain ⟨fm2, hfm2⟩ : ∃ q, fm = q := ⟨_, rfl⟩
    rw [hlf, hfm2] at ht ⊢
    clear hlf hfm2
    induction k generalizing lf ex fm2 with
    | zero => cases ht
    | succ k ih =>
      obtain ⟨fd, met⟩ := fm2
      unfold isoW at ht
      cases met with
      | none =>
        cases ht
        show WH C 8 _ [("left", .val (pI l9)), ("exact", .own (e9.map rV)), ("found", .val (.lst (fd.map ivV))), ("met", .val .none)] _ _ _
        refine' WH.outLess ?o1 (WH.done (TS.conv (TS.cmp ?o2 ?o3 CMP.notNoneN) rfl))
        case o2 => walk_at "ev"
        case o3 => walk_at "ev"
        case o1 => walk_at "less"
      | some x =>
        replace ht : (if ex.length ≤ 1000 then (zexactL lf (linearL x)).bind fun left' => (splitOrL left').bind fun fm' => isoW k left' (ex ++ [x]) fm' else none) = some (l9, e9, f9) := ht
        split at ht
        rotate_left
        · cases ht
        rename_i hlen
        obtain ⟨left', hl', ht⟩ := Option.bind_eq_some_iff.mp ht
        obtain ⟨fm', hfm', ht⟩ := Option.bind_eq_some_iff.mp ht
        have c3 := zexact_ok B hl'
        have c4 := linear_of_ok B (x := x)
        have cd := zdegree_ok B (p := left')
        show WH C 8 _ [("left", .val (pI lf)), ("exact", .own (ex.map rV)), ("found", .val (.lst (fd.map ivV))), ("met", .val (rV x))] _ _ _
        refine' WH.step (r1 := [("left", .val (pI left')), ("exact", .own ((ex ++ [x]).map rV)), ("found", .val (.lst (fm'.1.map ivV))), ("met", .val (metV fm'.2))]) (TS.conv (TS.cmp ?s2 ?s3 CMP.notNoneT) rfl) ?s4 (ih _ _ _ ht)
        case s2 => walk_at "ev"
        case s3 => walk_at "ev"
        case s4 =>
          refine' EXs.cons (EX.appendM (a := x) ?a1 ?a2 ?a3 ?a4 (by rfl) (by intro _; rfl) (by intro _; rfl) (by decide) (by decide)) ?a5
          case a1 => walk_at "lk"
          case a2 => walk_at "ev"
          case a3 => unfold cap; omega
          case a4 => walk_at "upd"
          walk_at "st"
          refine' EXs.cons (EX.v2 (d1 := .lst (fm'.1.map ivV)) (d2 := metV fm'.2) ?j1 ?j2 ?j3 ?j4 ?j5 (by intro _; rfl) (by walk_at "sw")) ?j6
          case j1 =>
            unfold splitOrL at hfm'
            split at hfm'
            · rename_i hl
              have c5 := split_roots_ok B hfm'
              refine EV.ifT (TS.conv (by walk_at "ts") (decide_eq_true (by omega))) ?_
              show EV _ _ _ _ _ (spV fm')
              walk_at "ev"
            · rename_i hl
              cases hfm'
              refine EV.ifF (TS.conv (by walk_at "ts") (decide_eq_false (by omega))) ?_
              show EV _ _ _ _ _ (.tup [.lst [], .none])
              walk_at "ev"
          case j2 => walk_at "upd"
          case j3 => walk_at "upd"
          case j4 => walk_at "loc"
          case j5 => walk_at "loc"
          exact EXs.nilL (by walk_at "less")
  · refine EXs.freeze (x := "exact") (by walk_at "lk") (by walk_at "upd") ?_
    have he := okL_le hok.1
    have hf9 := okL_le hok.2
    refine' EXs.cons (EX.assign (d := .lst ((e9.map (fun x => (x, x)) ++ ks).map ivV)) (EV.conv (EV.bin (EV.compX ivV (ea := rV) (f := fun x => some (x, x)) (l := e9) [] ?rf1 (mapG_some _ _) (IT.list ?it1) ?b1 he) (EV.compX ivV (ea := ivV) ["left", "exact"] ?rf2 hks (IT.list ?it2) ?b2 hf9) (BIN.addl ?len)) ?e) ?u ?l (hs := by walk_at "sw")) ?rest
    case rf1 => walk_at "rf"
    case it1 => walk_at "ev"
    case b1 =>
      intro a b e
      cases e
      show EV _ _ _ _ _ (.tup [rV a, rV a])
      walk_at "ev"
    case rf2 => walk_at "rf"
    case it2 => walk_at "ev"
    case b2 =>
      intro a b e
      have c5 := kept_off_ok B e
      walk_at "ev"
    case len =>
      rw [List.length_map, List.length_map, List.length_map, mapG_len hks]; unfold cap
      have h1 : e9.length ≤ 1000 := he
      have h2 : f9.length ≤ 1000 := hf9
      omega
    case e => rw [List.map_append]
    case u => walk_at "upd"
    case l => walk_at "loc"
    walk_at "st"
noncomputable def refW : Nat → List Int → (Int × Int) → Iv → Option Iv
  | 0, _, _, _ => none
  | k + 1, left, w, iv => (rsubL iv.2 iv.1).bind fun d => (rcompareL d w).bind fun u => if 0 < u then (halvedL left iv).bind fun iv' => refW k left w iv' else some iv
noncomputable def refineL (f : List Int) (iv : Iv) (w : Int × Int) : Option Iv := (rcompareL w (0, 1)).bind fun u => if 0 < u then (simplePartL f).bind fun left => refW 100 left w iv else none
theorem refine_ok {C : Cx} (B : Bd C) {f : List Int} {iv r : Iv} {w : Int × Int} (h : refineL f iv w = some r) : CN C 9 "refine" [pI f, ivV iv, rV w] (ivV r) := by
  unfold refineL at h
  obtain ⟨u, hu, h⟩ := Option.bind_eq_some_iff.mp h
  split at h
  rotate_left
  · cases h
  rename_i hu0
  obtain ⟨left, hleft, h⟩ := Option.bind_eq_some_iff.mp h
  have c1 := rcompare_ok B hu
  have c2 := simple_part_ok B hleft
  obtain ⟨v, hv, hr⟩ := R0_at B
  refine CN.intro B ["f", "interval", "width"] [("f", .val (pI f)), ("interval", .val (ivV iv)), ("width", .val (rV w))] (by rfl) (by rfl) (by rfl) (by walk_at "bind") (by decide) (by decide) rfl rfl rfl rfl rfl (out := .ret (ivV r)) ?_ (.inl rfl)
  refine EXs.ifF (TS.conv (TS.cmp (EV.callN (by rfl) (EVs.cons (by walk_at "ev") (EVs.cons (EV.glob (by rfl) hv hr) EVs.nil)) c1 (by decide)) (by walk_at "ev") CMP.leI) (decide_eq_false (by omega))) ?_
  walk_at "st"
  refine EXs.cons (r1 := [("interval", .val (ivV r))]) (EX.while (WH.less (r1 := [("left", .val (pI left)), ("interval", .val (ivV iv)), ("width", .val (rV w))]) (by walk_at "less") ?_)) (by walk_at "st")
  generalize 100 = k at h
  obtain ⟨jv, hjv⟩ : ∃ jv, iv = jv := ⟨_, rfl⟩
  rw [hjv] at h ⊢
  clear hjv c1 c2 hu hleft
  induction k generalizing jv with
  | zero => cases h
  | succ k ih =>
    unfold refW at h
    obtain ⟨d, hd, h⟩ := Option.bind_eq_some_iff.mp h
    obtain ⟨z, hz, h⟩ := Option.bind_eq_some_iff.mp h
    have c1 := rsub_ok B hd
    have c2 := rcompare_ok B hz
    split at h
    · rename_i h0
      obtain ⟨iv', hiv, h⟩ := Option.bind_eq_some_iff.mp h
      have c3 := halved_ok B hiv
      refine' WH.step (by walk_at "tst") ?b (ih _ h)
      case b =>
        walk_at "st"
        exact EXs.nilL (by walk_at "less")
    · rename_i h0
      cases h
      exact WH.outLess (by walk_at "less") (WH.done (by walk_at "tst"))
noncomputable def wtW (len : Nat) (x : Int × Int) : Nat → List Int → Option (List Int)
  | _, [] => some []
  | i, c :: cs => (powG x.1 (i : Int)).bind fun p => (mulG c p).bind fun u => (powG x.2 ((len : Int) - (i : Int))).bind fun q => (mulG u q).bind fun v => (wtW len x (i + 1) cs).bind fun vs => some (v :: vs)
noncomputable def worthL (f : List Int) (x : Int × Int) : Option Int := (wtW f.length x 0 f).bind fun vs => some vs.sum
theorem wtW_get {len : Nat} {x : Int × Int} : ∀ {p q : List Int} {k : Nat}, wtW len x k p = some q → q.length = p.length ∧ ∀ i c v, p[i]? = some c → q[i]? = some v →
    ∃ a u b, powG x.1 ((k + i : Nat) : Int) = some a ∧ mulG c a = some u ∧ powG x.2 ((len : Int) - ((k + i : Nat) : Int)) = some b ∧ mulG u b = some v
  | [], q, k, h => by cases h; exact ⟨rfl, fun i x y e => nomatch e⟩
  | c :: cs, q, k, h => by
    unfold wtW at h
    obtain ⟨p, hp, h⟩ := Option.bind_eq_some_iff.mp h
    obtain ⟨u, hu, h⟩ := Option.bind_eq_some_iff.mp h
    obtain ⟨t, ht, h⟩ := Option.bind_eq_some_iff.mp h
    obtain ⟨v, hv, h⟩ := Option.bind_eq_some_iff.mp h
    obtain ⟨vs, hvs, h⟩ := Option.bind_eq_some_iff.mp h
    cases h
    obtain ⟨h1, h2⟩ := wtW_get hvs
    refine ⟨by rw [List.length_cons, List.length_cons, h1], fun i y z e1 e2 => ?_⟩
    cases i with
    | zero => cases e1; cases e2; exact ⟨p, u, t, hp, hu, ht, hv⟩
    | succ i =>
      have := h2 i y z (by simpa using e1) (by simpa using e2)
      rwa [show k + 1 + i = k + (i + 1) by omega] at this
theorem EV.compEX {C : Cx} {n : Nat} {sc : Scope} {r : List (Str × Sl)} {elt e : Expr} {xa xb : Str} {pa pb tp np cp : Pos} {tk0 : Nat} {scope : Scope} {pos : Pos} {ds outs : List V} {rf : List (Str × Sl)} (ys : List Str) (hra : RF sc scope xa r ys rf) (hrb : RF sc scope xb r ys rf)
    (he : EV C n sc r e (.lst ds)) (hk : sc.names.lookup (Str.ofString "enumerate") = some .globalImplicit) (hg : C.mg "enumerate" = none) (hv : bootBuiltins "enumerate" = some (.type "enumerate"))
    (hlo : outs.length = ds.length)
    (hb : ∀ (i : Nat) d o, ds[i]? = some d → outs[i]? = some o → EV C n (relab scope sc) ((xb, .val d) :: (xa, .val (.int (i : Int))) :: rf) elt o)
    (hse : ∀ env, starEach [e] env = [(false, eval e env)] := by intro _; rfl)
    (hall : ∀ y ∈ scope.names, y.2 = .free → y.1 ∈ ys := by decide)
    (hcell : ∀ y ∈ scope.names, y.2 ≠ .cell := by decide) (hkind : scope.kind = .function := by rfl)
    (hnames : ∀ y ∈ scope.names, y.2 = .local → scope.names.lookup y.1 = some .local := by decide) (hxa : scope.names.lookup xa = some .local := by rfl) (hxb : scope.names.lookup xb = some .local := by rfl) (hab : xa ≠ xb := by decide) :
    EV C n sc r (.ListComp elt [⟨.Tuple [.Name xa pa, .Name xb pb] tk0 tp, .Call (.Name "enumerate" np) [e] [] cp, [], 0⟩] scope pos) (.lst outs) :=
  EV.compE ds outs rf he hk hg hv hse hcell hkind hnames hxa hxb hab (fun p hp => ⟨⟨(hra.all p hp).1, (hrb.all p hp).1⟩, (hra.all p hp).2⟩) (fun y hy => hra.has y (hall (y, .free) hy rfl)) hlo hb
theorem law_worth_ok {C : Cx} (B : Bd C) {f : List Int} {x : Int × Int} {r : Int} (h : worthL f x = some r) : CN C 1 "_law_worth" [pI f, rV x] (.int r) := by
  unfold worthL at h
  obtain ⟨q, hq, h⟩ := Option.bind_eq_some_iff.mp h
  cases h
  obtain ⟨g1, g2⟩ := wtW_get hq
  refine CN.intro B ["f", "x"] [("f", .val (pI f)), ("x", .val (rV x))] (by rfl) (by rfl) (by rfl) (by walk_at "bind") (by decide) (by decide) rfl rfl rfl rfl rfl (out := .ret (.int q.sum)) ?_ (.inl rfl)
  refine EXs.ret (EX.return (EV.sum B (EVs.cons (d := pI q) ?_ EVs.nil) (by intro _; rfl) (by intro _ _; rfl) (by rfl) BI.sum))
  refine' EV.compEX (ds := f.map .int) (outs := q.map .int) ["f", "x"] ?ra ?rb ?e1 (by rfl) (nb_enumerate B) bb_enumerate (by rw [List.length_map, List.length_map, g1]) ?hb
  case ra => walk_at "rf"
  case rb => walk_at "rf"
  case e1 => walk_at "ev"
  case hb =>
    intro i d o e1 e2
    rw [List.getElem?_map] at e1 e2
    obtain ⟨c, hc, rfl⟩ := Option.map_eq_some_iff.mp e1
    obtain ⟨y, hy, rfl⟩ := Option.map_eq_some_iff.mp e2
    obtain ⟨a, u, b, m1, m2, m3, m4⟩ := g2 i c y hc hy
    rw [Nat.zero_add] at m1 m3
    walk_at "ev"
theorem law_wide_ok {C : Cx} (B : Bd C) {iv : Iv} {a b c : Int} (ha : mulG iv.2.1 iv.1.2 = some a) (hb : mulG iv.1.1 iv.2.2 = some b) (hc : mulG iv.2.2 iv.1.2 = some c) : CN C 1 "_law_wide" [ivV iv] (rV (a - b, c)) := by
  refine CN.intro B ["interval"] [("interval", .val (ivV iv))] (by rfl) (by rfl) (by rfl) (by walk_at "bind") (by decide) (by decide) rfl rfl rfl rfl rfl (out := .ret (.tup [.int (a - b), .int c])) ?_ (.inl rfl)
  walk_at "st"
  walk_at "st"
theorem EX.tryRet {C : Cx} {n : Nat} {sc : Scope} {r : List (Str × Sl)} {body : List Stmt} {h₀ : ExceptHandler} {hs : List ExceptHandler} {pos : Pos} {d : V} (h : EXs C n sc r body (.ret d)) : EX C n sc r (.Try body (h₀ :: hs) [] [] pos) (.ret d) := by
  intro env A s F G F0 S ro Q E hq
  show wpAny C.M A (do standAt pos; tryStmt false (execs body env) (h₀ :: hs) (execs [] env) [] env) Q E s
  refine wpAny_bind (wpAny_standAt (wpAny_tryStmt_except (h env A s F G F0 S ro _ _ ?_)))
  exact fun v F' h' tk' L rv => hq v F' h' tk' L rv
theorem law_told_ok {C : Cx} (B : Bd C) {f : List Int} {iv r : Iv} {w : Int × Int} (h : refineL f iv w = some r) : CN C 10 "_law_told" [pI f, ivV iv, rV w] (ivV r) := by
  have c1 := refine_ok B h
  refine CN.intro B ["f", "interval", "width"] [("f", .val (pI f)), ("interval", .val (ivV iv)), ("width", .val (rV w))] (by rfl) (by rfl) (by rfl) (by walk_at "bind") (by decide) (by decide) rfl rfl rfl rfl rfl (out := .ret (ivV r)) ?_ (.inl rfl)
  exact EXs.ret (EX.tryRet (by walk_at "st"))
noncomputable def wideL (iv : Iv) : Option (Int × Int) := (mulG iv.2.1 iv.1.2).bind fun a => (mulG iv.1.1 iv.2.2).bind fun b => (mulG iv.2.2 iv.1.2).bind fun c => some (a - b, c)
theorem wide_ok {C : Cx} (B : Bd C) {iv : Iv} {w : Int × Int} (h : wideL iv = some w) : CN C 1 "_law_wide" [ivV iv] (rV w) := by
  unfold wideL at h
  obtain ⟨a, ha, h⟩ := Option.bind_eq_some_iff.mp h
  obtain ⟨b, hb, h⟩ := Option.bind_eq_some_iff.mp h
  obtain ⟨c, hc, h⟩ := Option.bind_eq_some_iff.mp h
  cases h
  exact law_wide_ok B ha hb hc
noncomputable def narrowL (f : List Int) (iv : Iv) (w : Int × Int) (told : Iv) : Option Bool :=
  (wideL iv).bind fun wide => (mulG wide.1 w.2).bind fun p => (mulG w.1 wide.2).bind fun q =>
  if p ≤ q then some (decide (told = iv)) else
  (mulG told.1.1 iv.1.2).bind fun x1 => (mulG iv.1.1 told.1.2).bind fun x2 => (mulG told.2.1 iv.2.2).bind fun x3 => (mulG iv.2.1 told.2.2).bind fun x4 =>
  if x1 < x2 ∨ x4 < x3 then none else
  if told.1 = told.2 then (worthL f told.1).bind fun z => some (z == 0) else
  (wideL told).bind fun wt => (mulG wt.1 w.2).bind fun y1 => (mulG w.1 wt.2).bind fun y2 => (mulG 2 wt.1).bind fun y3 => (mulG y3 w.2).bind fun y4 =>
  if y2 < y1 ∨ y4 ≤ y2 then none else (worthL f told.1).bind fun z1 => (worthL f told.2).bind fun z2 => (mulG z1 z2).bind fun z3 => some (decide (z3 < 0))
theorem narrow_ok {C : Cx} (B : Bd C) {f : List Int} {iv told : Iv} {w : Int × Int} {b : Bool} (ht : refineL f iv w = some told) (h : narrowL f iv w told = some b) : CN C 11 "_law_narrow_right" [pI f, ivV iv, rV w] (.bool b) := by
  unfold narrowL at h
  obtain ⟨wide, hw, h⟩ := Option.bind_eq_some_iff.mp h
  obtain ⟨p, hp, h⟩ := Option.bind_eq_some_iff.mp h
  obtain ⟨q, hq, h⟩ := Option.bind_eq_some_iff.mp h
  have c1 := law_told_ok B ht
  have c2 := wide_ok B hw
  split at h
  · rename_i hpq
    cases h
    refine CN.intro B ["f", "interval", "width"] [("f", .val (pI f)), ("interval", .val (ivV iv)), ("width", .val (rV w))] (by rfl) (by rfl) (by rfl) (by walk_at "bind") (by decide) (by decide) rfl rfl rfl rfl rfl (out := .ret (.bool (decide (told = iv)))) ?_ (.inl rfl)
    walk_at "st"
    refine EXs.ifT (by walk_at "tst") ?_
    walk_at "st"
  · rename_i hpq
    obtain ⟨x1, h1, h⟩ := Option.bind_eq_some_iff.mp h
    obtain ⟨x2, h2, h⟩ := Option.bind_eq_some_iff.mp h
    obtain ⟨x3, h3, h⟩ := Option.bind_eq_some_iff.mp h
    obtain ⟨x4, h4, h⟩ := Option.bind_eq_some_iff.mp h
    split at h
    · cases h
    rename_i hx
    have hx1 : ¬ x1 < x2 := fun z => hx (.inl z)
    have hx2 : ¬ x4 < x3 := fun z => hx (.inr z)
    split at h
    · rename_i he
      obtain ⟨z, hz, h⟩ := Option.bind_eq_some_iff.mp h
      cases h
      have c3 := law_worth_ok B hz
      refine CN.intro B ["f", "interval", "width"] [("f", .val (pI f)), ("interval", .val (ivV iv)), ("width", .val (rV w))] (by rfl) (by rfl) (by rfl) (by walk_at "bind") (by decide) (by decide) rfl rfl rfl rfl rfl (out := .ret (.bool (z == 0))) ?_ (.inl rfl)
      walk_at "st"
      refine EXs.ifF (by walk_at "tst") ?_
      walk_at "st"
      refine EXs.ifF (TS.conv (TS.or (a := false) (b := false) (by walk_at "tst") (fun _ => by walk_at "tst")) rfl) ?_
      refine EXs.ifT (TS.conv (by walk_at "ts") (decide_eq_true he)) ?_
      walk_at "st"
    · rename_i he
      obtain ⟨wt, hwt, h⟩ := Option.bind_eq_some_iff.mp h
      obtain ⟨y1, hy1, h⟩ := Option.bind_eq_some_iff.mp h
      obtain ⟨y2, hy2, h⟩ := Option.bind_eq_some_iff.mp h
      obtain ⟨y3, hy3, h⟩ := Option.bind_eq_some_iff.mp h
      obtain ⟨y4, hy4, h⟩ := Option.bind_eq_some_iff.mp h
      split at h
      · cases h
      rename_i hy
      have hya : ¬ y2 < y1 := fun z => hy (.inl z)
      have hyb : ¬ y4 ≤ y2 := fun z => hy (.inr z)
      obtain ⟨z1, hz1, h⟩ := Option.bind_eq_some_iff.mp h
      obtain ⟨z2, hz2, h⟩ := Option.bind_eq_some_iff.mp h
      obtain ⟨z3, hz3, h⟩ := Option.bind_eq_some_iff.mp h
      cases h
      have c3 := law_worth_ok B hz1
      have c4 := law_worth_ok B hz2
      have c5 := wide_ok B hwt
      refine CN.intro B ["f", "interval", "width"] [("f", .val (pI f)), ("interval", .val (ivV iv)), ("width", .val (rV w))] (by rfl) (by rfl) (by rfl) (by walk_at "bind") (by decide) (by decide) rfl rfl rfl rfl rfl (out := .ret (.bool (decide (z3 < 0)))) ?_ (.inl rfl)
      walk_at "st"
      refine EXs.ifF (by walk_at "tst") ?_
      walk_at "st"
      refine EXs.ifF (TS.conv (TS.or (a := false) (b := false) (by walk_at "tst") (fun _ => by walk_at "tst")) rfl) ?_
      refine EXs.ifF (TS.conv (by walk_at "ts") (decide_eq_false he)) ?_
      walk_at "st"
      refine EXs.ifF (TS.conv (TS.or (a := false) (b := false) (by walk_at "tst") (fun _ => by walk_at "tst")) rfl) ?_
      walk_at "st"
noncomputable def drawL (xs : List Int) (c many : Int) : Option Int := if c + 1 ≤ (xs.length : Int) then (itemI xs (c + 1 - 1)).bind fun x => modG (absI x) many else
  (mulG 4 (c + 1)).bind fun p => (divG (c + 1) 3).bind fun q => modG (p + q) many
noncomputable def DN (C : Cx) (n : Nat) (x : Str) (ds ds' : List V) (many v : Int) : Prop := ∃ f o fd, C.mg x = some (.ref f) ∧ C.b0.get? f = some o ∧ o.data = .func fd ∧ DR C n f ds ds' many v
theorem DN.intro {C : Cx} {n : Nat} {K : Frag} (X : K.In C.b0) {x name qual p q : Str} {params : Arguments} {st : Stmt} {ss : List Stmt} {scope : Scope} {dV kV doc pm cdv ct oc : Value} {an od : Option Addr} {osl : Array (Option Value)} {f : Addr} {ds ds' : List V} {many v : Int} {r1 r2 : List (Str × Sl)}
    (hv : nsIn K mainGlobals x = some (some (.ref f))) (ho : K.lookup f = some ⟨oc, od, .func (fnOf name qual params (st :: ss) scope dV kV doc pm an cdv ct), osl⟩) (hcd : codeIn K cdv qual = true)
    (hbind : ∀ v w : Value, bindArgs (fnOf name qual params (st :: ss) scope dV kV doc pm an cdv ct) ⟨[v, w], []⟩ = pure [(p, v), (q, w)])
    (hp : scope.names.lookup p = some .local) (hq' : scope.names.lookup q = some .local) (hpq : p ≠ q) (hqp : q ≠ p) (hco : scope.isCoroutine = false) (hgen : scope.isGenerator = false) (hk : scope.kind = .function)
    (h1 : ∀ (env : Env) (A : Around) (s : Shared) (F G F0 : PM), Fst C G F0 env scope [(p, .own ds), (q, .val (.int many))] F s.heap → Room n A → ∀ (Q : Flow → Shared → Prop) (E : Value → Shared → Prop),
      (∀ F' h' tk', Fst C G F0 env scope r1 F' h' → (∀ a, VarAt env s.heap p (.ref a) → VarAt env h' p (.ref a)) → Q .next { s with heap := h', toks := tk' }) → wpAny C.M A (exec st env) Q E s)
    (k1 : LK r1 p (.own ds')) (U1 : UPD r1 p (.val (.lst ds')) r2) (h2 : EXs C n scope r2 ss (.ret (.int v))) : DN C (n + 1) x ds ds' many v :=
  ⟨f, _, _, mg_of X C.g hv, X _ _ ho, rfl, DR.intro (fd := fnOf name qual params (st :: ss) scope dV kV doc pm an cdv ct) ⟨⟨_, X _ _ ho, rfl⟩, codeRec_of X hcd, rfl, rfl, rfl, rfl, hco, hgen, hk⟩ hbind hp hq' hpq hqp h1 k1 U1 h2⟩
theorem draw_ok {C : Cx} (B : Bd C) {xs : List Int} {c many v : Int} (h : drawL xs c many = some v) : DN C 1 "_law_draw" [pI xs, .int c] [pI xs, .int (c + 1)] many v := by
  refine DN.intro B (p := "pool") (q := "many") (r1 := [("pool", .own [pI xs, .int (c + 1)]), ("many", .val (.int many))]) (r2 := [("pool", .val (.lst [pI xs, .int (c + 1)])), ("many", .val (.int many))]) (by rfl) (by rfl) (by rfl) (by intro v w; rfl) (by rfl) (by rfl) (by decide) (by decide) rfl rfl rfl ?_ (by walk_at "lk") (by walk_at "upd") ?_
  · have i1 : itemAt [pI xs, .int c] 1 = some (.int c) := rfl
    exact setItemA (d := .int (c + 1)) (j := 1) (by walk_at "lk") (by walk_at "ev") (by walk_at "ev") ⟨by decide, of_decide_eq_true (by rfl)⟩ UPD.here (by intro _; rfl) (by decide) (by decide)
  · unfold drawL at h
    split at h
    · rename_i hc
      obtain ⟨x, hx, h⟩ := Option.bind_eq_some_iff.mp h
      refine EXs.ifT (by walk_at "tst") ?_
      walk_at "st"
    · rename_i hc
      obtain ⟨p, hp, h⟩ := Option.bind_eq_some_iff.mp h
      obtain ⟨q, hq, h⟩ := Option.bind_eq_some_iff.mp h
      refine EXs.ifF (by walk_at "tst") ?_
      walk_at "st"
theorem Fst.notFields {C : Cx} {sc : Scope} {r : List (Str × Sl)} {G F0 F : PM} {env : Env} {h : Heap} {e : Addr} {o : Obj} {vs : Array Value} (S : Fst C G F0 env sc r F h) (ho : h.get? e = some o) (hd : o.data = .fields vs) :
    ¬ env.locals = e ∧ ∀ y c, env.cells.lookup y = some c → ¬ c = e := by
  refine ⟨fun z => ?_, fun y c hc z => ?_⟩
  · obtain ⟨_, _, m, o', es, ep, ho', hd', _⟩ := S.loc
    rw [z, ho] at ho'; cases ho'; rw [hd] at hd'; cases hd'
  · obtain ⟨_, _, v, o', ho', hd'⟩ := S.cell y c hc
    rw [z, ho] at ho'; cases ho'; rw [hd] at hd'; cases hd'
noncomputable abbrev casT : List Value := [.type "Exception", .type "BaseException", .type "object"]
theorem cas_cls {C : Cx} (B : Bd C) : ∃ nm q bs sn sub ab col dd k0 k1 k2 k3 k5, C.b0.get? 31 = some (excClassObj nm q 31 30 bs casT true sn sub ab col dd k0 k1 k2 k3 k5 "Exception.__new__") :=
  ⟨_, _, _, _, _, _, _, _, _, _, _, _, _, B _ _ (by rfl)⟩
theorem cas_ns {C : Cx} (B : Bd C) : ∃ mN : Str → Option Value, C.b0.Ns 30 mN ∧ mN "__init__" = some (.ref 28) ∧ mN "__setattr__" = none ∧ mN "kind" = none ∧ mN "text" = none := by
  obtain ⟨o, es, ep, ho, hd, hm, h1, h2, h3, h4, h5⟩ : ∃ o es ep, C.b0.get? 30 = some o ∧ o.data = .dict es ep ∧ StrKeys es ∧ nsFind es "__init__" = some (.ref 28) ∧ nsFind es "__setattr__" = none ∧ nsFind es "kind" = none ∧ nsFind es "text" = none ∧ True := by
    refine ⟨_, _, _, B _ _ (by rfl), rfl, ?_, by rfl, by rfl, by rfl, by rfl, trivial⟩
    intro e he
    have he' := List.mem_toArray.mp he
    simp only [List.mem_cons, List.not_mem_nil, or_false] at he'
    rcases he' with rfl | rfl | rfl | rfl | rfl | rfl <;> exact ⟨_, _, rfl⟩
  exact ⟨nsFind es, ⟨o, es, ep, ho, hd, hm, fun _ => rfl⟩, h1, h2, h3, h4⟩
noncomputable def casK : Str := "domain"
noncomputable def casX : Str := "a width above 0 is wanted"
theorem cas_init {C : Cx} (B : Bd C) {A : Around} {s : Shared} {F : PM} {e t0 : Addr} {u v : Tok} (ro : Room 3 A) (base : Sub C.b0.get? F) (le : Sub F s.heap.get?) (hFe : F e = none)
    (he : s.heap.get? e = some { cls := .ref 31, data := .fields #[.ref t0, .none, .none, .none, .bool false, .none] }) {Q E : Value → Shared → Prop}
    (hq : ∀ h' tk' D t w, (∀ b o, b ≠ e → s.heap.get? b = some o → h'.get? b = some o) → s.heap.get? D = none → D ≠ e → h'.get? e = some { cls := .ref 31, dict := some D, data := .fields #[.ref t, .none, .none, .none, .bool false, .none] } →
      (∃ mA, h'.Ns1 D mA ∧ mA "kind" = some (.str casK w)) → Q .none { s with heap := h', toks := tk' }) :
    wpAny C.M A (call (.ref 28) [.ref e, .str casK u, .str casX v]) Q E s := by
  refine enter (G := fun b => if b = e then none else s.heap.get? b) (names := ["self", "kind", "text"]) (ds := [.raw (.ref e), .str casK, .str casX]) ⟨⟨_, B 28 _ (by rfl), rfl⟩, codeRec_of B (by rfl), rfl, rfl, rfl, rfl, rfl, rfl, rfl⟩ (by walk_at "bind") (by decide) (by decide) rfl ro base le (fun b o q => by
    by_cases c : b = e
    · simp only [c, if_true] at q; cases q
    · simp only [c, if_false] at q; exact q) (Reps.cons (by unfold Rep; rfl) (Reps.cons rep_str (Reps.cons rep_str Reps.nil))) ?_
  intro env h₁ tk S hk₁ hfr hloc hcel
  obtain ⟨nm, q, bs, sn, sub, ab, col, dd, k0, k1, k2, k3, k5, hcls⟩ := cas_cls B
  obtain ⟨mN, hns, hinit, hset, hkind, htext⟩ := cas_ns B
  have ro2 : Room 2 (A.deeper env) := ro.deeper env
  have b31 : (31 : Addr) ≠ e := fun z => by rw [← z, base _ _ hcls] at hFe; cases hFe
  have keep0 : Sub C.b0.get? s.heap.get? := base.trans le
  have e1 : h₁.get? e = some { cls := .ref 31, data := .fields #[.ref t0, .none, .none, .none, .bool false, .none] } := hk₁ _ _ he
  have Gnone : ∀ b, b = e → F b = none ∧ (if b = e then none else s.heap.get? b) = none := fun b z => by subst z; exact ⟨hFe, by simp⟩
  refine wpAny_execs_cons ?_
  refine wpAny_Expr_any ?_ (notInteractive S.ok) rfl
  refine methodCall_KW ?_
  have p := S.pre (s := { s with heap := h₁, toks := tk }) ro2
  refine loadB p (by rfl) (mg_none_of B C.g (by rfl)) (by rfl : bootBuiltins (Str.ofString "Exception") = some (.type "Exception")) ?_ (by decide) (by decide)
  refine getm_type (K := heapK C.w.params) (fun b o q => S.lt.le b o (S.lt.base b o (B b o q))) (by kernel_rfl) (by decide +kernel) (v := .builtin "Exception.__init__") (by kernel_rfl) (by decide +kernel) ?_
  refine PyProof.Rows.callWith_builtin1 ?_ rfl rfl
  refine (?ha : EVs C 2 _ [("self", .val (.raw (.ref e))), ("kind", .val (.str casK)), ("text", .val (.str casX))] _ [.raw (.ref e), .str ((casK ++ ": ") ++ casX)]) env _ _ F (p.next (Ext.refl S.lt.le)) _ _ _ fun vs F1 h2 tk2 x2 rs2 => ?_
  case ha => walk_at "evs"
  obtain ⟨a1, a2, rfl, r1, r2⟩ := rs2.two
  obtain rfl := (by unfold Rep at r1; exact r1 : a1 = .ref e)
  have S2 := S.ext x2
  refine init_again (C := 31) (B := "Exception") (bm := casT) PySem.F.excBase_Exception (S2.lt.le _ _ (S2.lt.base _ _ hcls)) (x2.keep _ _ e1) (fun h3 t3 hk3 he3 => ?_) (of_decide_eq_true (by rfl))
  have f1 : F1 e = none := by
    cases z : F1 e with
    | none => rfl
    | some o => have := x2.fresh e hFe (by rw [z]; exact fun q => nomatch q); rw [e1] at this; cases this
  have S3 := S2.off (fun b => b = e) (fun b z => by subst z; exact ⟨f1, by simp⟩) (S2.notFields (x2.keep _ _ e1) rfl).1 (S2.notFields (x2.keep _ _ e1) rfl).2 (fun y ds k => by
    rcases k with _ | ⟨_, _ | ⟨_, _ | ⟨_, k⟩⟩⟩; cases k) (h' := h3) hk3
  -- self.kind = kind
  refine wpAny_execs_cons ?_
  refine plainObj_wpAny_Assign_Attribute ?_ rfl
  refine (?hv : EV C 2 _ [("self", .val (.raw (.ref e))), ("kind", .val (.str casK)), ("text", .val (.str casX))] _ (.str casK)) env _ _ F1 (S3.pre (s := ⟨h3, s.gens, s.drawn, tk2, s.os⟩) ro2) _ _ fun v3 F3 h4 tk4 x3 r3 => ?_
  case hv => walk_at "ev"
  obtain ⟨w3, rfl⟩ := (by unfold Rep at r3; exact r3 : ∃ t, v3 = .str casK t)
  have S4 := S3.ext x3
  refine (?hv2 : EV C 2 _ [("self", .val (.raw (.ref e))), ("kind", .val (.str casK)), ("text", .val (.str casX))] _ (.raw (.ref e))) env _ _ F3 (S4.pre (s := ⟨h4, s.gens, s.drawn, tk4, s.os⟩) ro2) _ _ fun v4 F4 h5 tk5 x4 r4 => ?_
  case hv2 => walk_at "ev"
  obtain rfl := (by unfold Rep at r4; exact r4 : v4 = .ref e)
  have S5 := S4.ext x4
  have he5 := x4.keep _ _ (x3.keep _ _ he3)
  have f4 : F4 e = none := by
    cases z : F4 e with
    | none => rfl
    | some o =>
      have f3 : F3 e = none := by
        cases z : F3 e with
        | none => rfl
        | some o => have := x3.fresh e f1 (by rw [z]; exact fun q => nomatch q); rw [he3] at this; cases this
      have := x4.fresh e f3 (by rw [z]; exact fun q => nomatch q)
      rw [x3.keep _ _ he3] at this; cases this
  refine first_attr PySem.F.store_Exception (S5.lt.le _ _ (S5.lt.base _ _ hcls)) (hns.keeps fun b o q => S5.lt.le b o (S5.lt.base b o q)) hset hkind (by rw [typeLookup_type, builtinLookup_eq_fast]; kernel_rfl) he5 fun h6 tk6 D hD hDe he6 hNs hk6 => ?_
  have noOwn : ∀ y ds, ¬ LK [("self", Sl.val (.raw (.ref e))), ("kind", .val (.str casK)), ("text", .val (.str casX))] y (.own ds) := fun y ds k => by
    rcases k with _ | ⟨_, _ | ⟨_, _ | ⟨_, k⟩⟩⟩; cases k
  have S6 := S5.off (fun b => b = e) (fun b z => by subst z; exact ⟨f4, by simp⟩) (S5.notFields he5 rfl).1 (S5.notFields he5 rfl).2 noOwn (h' := h6) hk6
  -- self.text = text
  refine wpAny_execs_cons ?_
  refine plainObj_wpAny_Assign_Attribute ?_ rfl
  refine (?hv3 : EV C 2 _ [("self", .val (.raw (.ref e))), ("kind", .val (.str casK)), ("text", .val (.str casX))] _ (.str casX)) env _ _ F4 (S6.pre (s := ⟨h6, s.gens, s.drawn, tk6, s.os⟩) ro2) _ _ fun v5 F5 h7 tk7 x5 r5 => ?_
  case hv3 => walk_at "ev"
  have S7 := S6.ext x5
  refine (?hv4 : EV C 2 _ [("self", .val (.raw (.ref e))), ("kind", .val (.str casK)), ("text", .val (.str casX))] _ (.raw (.ref e))) env _ _ F5 (S7.pre (s := ⟨h7, s.gens, s.drawn, tk7, s.os⟩) ro2) _ _ fun v6 F6 h8 tk8 x6 r6 => ?_
  case hv4 => walk_at "ev"
  obtain rfl := (by unfold Rep at r6; exact r6 : v6 = .ref e)
  have S8 := S7.ext x6
  have k8 : ∀ b o, h6.get? b = some o → h8.get? b = some o := fun b o q => x6.keep _ _ (x5.keep _ _ q)
  have he8 := k8 _ _ he6
  have hNs8 := hNs.at fun o q => k8 D o q
  refine store_attr PySem.F.store_Exception (S8.lt.le _ _ (S8.lt.base _ _ hcls)) (hns.keeps fun b o q => S8.lt.le b o (S8.lt.base b o q)) hset htext (by rw [typeLookup_type, builtinLookup_eq_fast]; kernel_rfl) (Ne.symm b31) ⟨_, he8, rfl, (fun c q => nomatch q), .inr ⟨D, rfl, hDe, hNs8⟩⟩ (fun h9 tk9 I9 hk9 hs9 => ?_) (ns := ["kind"]) (fun y hy => ?_) (of_decide_eq_true (by rfl))
  · obtain ⟨o1, g1, g2, g3, g4, g5⟩ := hs9 _ he8
    have g6 := g5 D rfl
    have ho1 : o1 = { cls := .ref 31, dict := some D, data := .fields #[.ref t3, .none, .none, .none, .bool false, .none] } := by
      obtain ⟨c1, c2, c3, c4⟩ := o1
      cases g2; cases g3; cases g4; cases g6; rfl
    have hD0 : s.heap.get? D = none := by
      cases z : s.heap.get? D with
      | none => rfl
      | some o =>
        have := x4.keep _ _ (x3.keep _ _ (hk3 _ _ hDe (x2.keep _ _ (hk₁ _ _ z))))
        rw [this] at hD; cases hD
    refine wpAny_execs_nil ?_
    refine hq h9 tk9 D t3 w3 (fun b o hb z => ?_) hD0 hDe (by rw [g1, ho1]) ?_
    · refine hk9 b o hb (fun o₀ dx z1 z2 => ?_) (k8 _ _ (hk6 _ _ hb (x4.keep _ _ (x3.keep _ _ (hk3 _ _ hb (x2.keep _ _ (hk₁ _ _ z)))))))
      rw [he8] at z1; cases z1; cases z2
      rintro rfl
      rw [z] at hD0; cases hD0
    · obtain ⟨o2, z1, z2, z3, z4⟩ := I9
      rw [g1] at z1; cases z1
      rcases z4 with ⟨_, z4⟩ | ⟨d, z5, z6, z7⟩
      · have := z4 "text"
        dsimp only at this
        rw [if_pos rfl] at this; cases this
      · rw [g6] at z5; cases z5
        refine ⟨_, z7, ?_⟩
        rw [if_neg (by decide), if_pos rfl]
  · by_cases c : y = ("kind" : Str)
    · exact List.mem_singleton.mpr c
    · rw [if_neg c] at hy
      exact absurd rfl hy
/-- a call of that def ends in CasFail('domain', ..) -/
noncomputable def RZ (C : Cx) (n : Nat) (x : Str) (ds : List V) : Prop := ∃ f o fd, C.mg x = some (.ref f) ∧ C.b0.get? f = some o ∧ o.data = .func fd ∧
  ∀ (A : Around) (s : Shared) (F : PM) (l : List Env) (vs : List Value), Room n A → A.frames = some l → FF s.heap l → Sub C.b0.get? F → Sub F s.heap.get? → Reps F vs ds → ∀ (Q E : Value → Shared → Prop),
    (∀ h' tk' e D T, Mv (l.filterMap (·.frame)) (fun b => s.heap.get? b = none) s.heap h' → s.heap.get? e = none → s.heap.get? D = none → s.heap.get? T = none → XS 31 e D T .none h' → (∃ mA w, h'.Ns1 D mA ∧ mA "kind" = some (.str casK w)) → E (.ref e) { s with heap := h', toks := tk' }) →
    wpAny C.M A (call (.ref f) vs) Q E s
theorem default_none (a : Addr) : (default : Heap).get? a = none := by
  cases q : (default : Heap).get? a with
  | none => rfl
  | some o => exact absurd (Heap.lt_size q) (Nat.not_lt_zero _)
theorem refine_raises {C : Cx} (B : Bd C) {f : List Int} {iv : Iv} {w : Int × Int} {u : Int} (hu : rcompareL w (0, 1) = some u) (hneg : u ≤ 0) : RZ C 9 "refine" [pI f, ivV iv, rV w] := by
  have c1 := rcompare_ok B hu
  obtain ⟨v0, hv0, hr0⟩ := R0_at B
  obtain ⟨nm, q, bs, sn, sub, ab, col, dd, k0, k1, k2, k3, k5, hcls⟩ := cas_cls B
  obtain ⟨mN, hns, hinit, _, _, _⟩ := cas_ns B
  obtain ⟨oI, hoI, hoIc⟩ : ∃ o, C.b0.get? 28 = some o ∧ o.cls = .type "function" := ⟨_, B 28 _ (by rfl), rfl⟩
  refine ⟨_, _, _, mg_of B C.g (by rfl), B _ _ (by rfl), rfl, ?_⟩
  intro A s F l vs ro hfr hl base le rs Q E hE
  refine enter (n := 8) (G := s.heap.get?) (names := ["f", "interval", "width"]) (ds := [pI f, ivV iv, rV w]) ⟨⟨_, B _ _ (by rfl), rfl⟩, codeRec_of B (by rfl), rfl, rfl, rfl, rfl, rfl, rfl, rfl⟩ (by walk_at "bind") (by decide) (by decide) rfl ro base le (Sub.refl _) rs ?_
  intro env h₁ tk S hk₁ hfr1 hloc hcel
  have ro1 : Room 8 (A.deeper env) := ro.deeper env
  refine wpAny_execs_cons (wpAny_If ((?ts : TS C 8 _ [("f", .val (pI f)), ("interval", .val (ivV iv)), ("width", .val (rV w))] _ true) env _ _ F (S.pre (s := ⟨h₁, s.gens, s.drawn, tk, s.os⟩) ro1) _ _ fun F1 h2 tk2 x2 => ?_))
  case ts => exact TS.conv (TS.cmp (EV.callN (by rfl) (EVs.cons (by walk_at "ev") (EVs.cons (EV.glob (by rfl) hv0 hr0) EVs.nil)) c1 (by decide)) (by walk_at "ev") CMP.leI) (decide_eq_true (by omega))
  simp only [if_true]
  have S2 := S.ext x2
  have p2 := S2.pre (s := ⟨h2, s.gens, s.drawn, tk2, s.os⟩) ro1
  refine wpAny_execs_cons ?_
  refine Raise_init (C := 31) (N := 30) (nm := nm) (q := q) (bs := bs) (hdct := true) (sn := sn) (sub := sub) (ab := ab) (col := col) (dd := dd) (k0 := k0) (k1 := k1) (k2 := k2) (k3 := k3) (k5 := k5) (bm := casT) (B := "Exception") (initId := "Exception.__init__") PySem.F.excBase_Exception (mN := mN) (fI := 28) (oI := oI) ro1.hh rfl rfl ?_
  refine loadG p2 (by rfl) (mg_of B C.g (by rfl)) ⟨rfl, ?_⟩ (by decide)
  refine (?ha : EVs C 8 _ [("f", .val (pI f)), ("interval", .val (ivV iv)), ("width", .val (rV w))] _ [.str casK, .str casX]) env _ _ F1 p2 _ _ _ fun ws F3 h3 tk3 x3 rs3 => ?_
  case ha => exact EVs.cons EV.cstr (EVs.cons EV.cstr EVs.nil)
  obtain ⟨a1, a2, rfl, r1, r2⟩ := rs3.two
  obtain ⟨t1, rfl⟩ := (by unfold Rep at r1; exact r1 : ∃ t, a1 = .str casK t)
  obtain ⟨t2, rfl⟩ := (by unfold Rep at r2; exact r2 : ∃ t, a2 = .str casX t)
  have S3 := S2.ext x3
  have up3 : ∀ b o, C.b0.get? b = some o → h3.get? b = some o := fun b o z => S3.lt.le b o (S3.lt.base b o z)
  have old3 : ∀ b o, s.heap.get? b = some o → h3.get? b = some o := fun b o z => x3.keep _ _ (x2.keep _ _ (hk₁ _ _ z))
  refine ⟨of_decide_eq_true (by rfl), up3 _ _ hcls, hns.keeps up3, hinit, up3 _ _ hoI, hoIc, fun h4 e hm => ?_⟩
  obtain ⟨t0, he4, _, _⟩ := hm.there
  have hFe : F3 e = none := none_of_le S3.lt.le hm.new
  have e31 : (31 : Addr) ≠ e := fun z => by rw [← z, S3.lt.base _ _ hcls] at hFe; cases hFe
  refine cas_init B (s := ⟨h4, s.gens, s.drawn, tk3, s.os⟩) (F := F3) (ro1.mono (by decide : 3 + 1 ≤ 8)).under S3.lt.base (fun b o z => hm.keeps b o (S3.lt.le b o z)) hFe he4 fun h5 tk5 D t w5 hk5 hD hDe he5 hNs => ?_
  have old5 : ∀ b o, s.heap.get? b = some o → b ≠ e ∧ h5.get? b = some o := fun b o z => by
    have z3 := old3 b o z
    have ne : b ≠ e := by rintro rfl; rw [hm.new] at z3; cases z3
    exact ⟨ne, hk5 b o ne (hm.keeps b o z3)⟩
  have freshE : s.heap.get? e = none := by
    cases z : s.heap.get? e with
    | none => rfl
    | some o => exact absurd rfl (old5 e o z).1
  have freshD : s.heap.get? D = none := by
    cases z : s.heap.get? D with
    | none => rfl
    | some o =>
      have := hm.keeps _ _ (old3 D o z)
      rw [this] at hD; cases hD
  refine ⟨rfl, t, D, hk5 _ _ e31 (hm.keeps _ _ (up3 _ _ hcls)), he5, ?_⟩
  -- the frame is left
  obtain ⟨_, _, mL, oL, esL, epL, hoL, hdL, _⟩ := S3.loc
  have neL : env.locals ≠ e := by rintro z; rw [z, hm.new] at hoL; cases hoL
  have ff5 : FF h5 (env :: l) := by
    refine ⟨?_, ⟨env.locals, oL, hfr1, default_none _, hk5 _ _ neL (hm.keeps _ _ hoL), fun vs z => by rw [hdL] at z; cases z⟩, ?_⟩
    · rw [S.ok.is, S.ok.fk]; exact fun z => nomatch z
    · exact Heap.FunFrames.of_keeps (fun b o z _ => ⟨o, (old5 b o z).2, rfl⟩) hl
  refine leaving_dict (s := ⟨h5, s.gens, s.drawn, tk5, s.os⟩) (Around.frames_deeper hfr) ff5 hfr1 he5 rfl rfl rfl rfl fun h6 T m x hT => ?_
  have freshT : s.heap.get? T = none := by
    cases z : s.heap.get? T with
    | none => rfl
    | some o => have := (old5 T o z).2; rw [this] at hT; cases hT
  refine hE h6 tk5 e D T ⟨fun b o hb hs z => ?_, fun b o hb z => ?_⟩ freshE freshD freshT x ?_
  · refine m.keep b o ?_ ?_ (old5 b o z).2
    · rintro (rfl | rfl)
      · exact hb freshE
      · exact hb freshT
    · rw [List.filterMap_cons, hfr1]
      intro hm'
      rcases List.mem_cons.mp hm' with rfl | hm'
      · exact hb hloc
      · exact hs hm'
  · refine m.slot b o ?_ (old5 b o z).2
    rintro (rfl | rfl)
    · exact hb freshE
    · exact hb freshT
  · obtain ⟨mA, hN, hk⟩ := hNs
    obtain ⟨oD, es, ep, z1, z2, z3, z4, z5⟩ := hN
    obtain ⟨sl, z6⟩ := m.slot D oD (by
      rintro (rfl | rfl)
      · exact hDe rfl
      · rw [hT] at z1; cases z1) z1
    exact ⟨mA, w5, ⟨_, es, ep, z6, z2, z3, z4, z5⟩, hk⟩
theorem cas_ns2 {C : Cx} (B : Bd C) : ∃ mN : Str → Option Value, C.b0.Ns 30 mN ∧ mN "__getattribute__" = none ∧ mN "__getattr__" = none ∧ mN "kind" = none := by
  obtain ⟨o, es, ep, ho, hd, hm, h1, h2, h3⟩ : ∃ o es ep, C.b0.get? 30 = some o ∧ o.data = .dict es ep ∧ StrKeys es ∧ nsFind es "__getattribute__" = none ∧ nsFind es "__getattr__" = none ∧ nsFind es "kind" = none := by
    refine ⟨_, _, _, B _ _ (by rfl), rfl, ?_, by rfl, by rfl, by rfl⟩
    intro e he
    have he' := List.mem_toArray.mp he
    simp only [List.mem_cons, List.not_mem_nil, or_false] at he'
    rcases he' with rfl | rfl | rfl | rfl | rfl | rfl <;> exact ⟨_, _, rfl⟩
  exact ⟨nsFind es, ⟨o, es, ep, ho, hd, hm, fun _ => rfl⟩, h1, h2, h3⟩
theorem told_bad {C : Cx} (B : Bd C) {f : List Int} {iv : Iv} {w : Int × Int} (hz : RZ C 9 "refine" [pI f, ivV iv, rV w]) : ∃ ft o fd, C.mg "_law_told" = some (.ref ft) ∧ C.b0.get? ft = some o ∧ o.data = .func fd ∧
    ∀ (A : Around) (s : Shared) (F : PM) (vs : List Value) (env0 : Env), Room 11 A → A.frames = some [env0] → env0.frame = some env0.locals → env0.scope.kind ≠ .module → F env0.locals = none → (∃ m, s.heap.Ns env0.locals m) → Sub C.b0.get? F → Sub F s.heap.get? → Reps F vs [pI f, ivV iv, rV w] → ∀ (Q E : Value → Shared → Prop),
      (∀ h' tk' u, Mv [env0.locals] (fun b => s.heap.get? b = none) s.heap h' → Q (.str casK u) { s with heap := h', toks := tk' }) → wpAny C.M A (call (.ref ft) vs) Q E s := by
  obtain ⟨fr, ofr, fdr, hmr, hor, hdr, hcall⟩ := hz
  obtain ⟨nm, q, bs, sn, sub, ab, col, dd, k0, k1, k2, k3, k5, hcls⟩ := cas_cls B
  obtain ⟨mN, hns, hga, hgt, hki⟩ := cas_ns2 B
  refine ⟨_, _, _, mg_of B C.g (by rfl), B _ _ (by rfl), rfl, ?_⟩
  intro A s F vs env0 ro hfr hf0 hk0 hF0 hN0 base le rs Q E hQ
  refine enter (n := 10) (G := fun b => if b = env0.locals then none else s.heap.get? b) (names := ["f", "interval", "width"]) (ds := [pI f, ivV iv, rV w]) ⟨⟨_, B _ _ (by rfl), rfl⟩, codeRec_of B (by rfl), rfl, rfl, rfl, rfl, rfl, rfl, rfl⟩ (by walk_at "bind") (by decide) (by decide) rfl ro base le (fun b o q => by
    by_cases c : b = env0.locals
    · simp only [c, if_true] at q; cases q
    · simp only [c, if_false] at q; exact q) rs ?_
  intro env h₁ tk S hk₁ hfr1 hloc hcel
  have ro1 : Room 10 (A.deeper env) := ro.deeper env
  have hfr2 : (A.deeper env).frames = some [env, env0] := Around.frames_deeper hfr
  have noOwn : ∀ y ds, ¬ LK [("f", Sl.val (pI f)), ("interval", .val (ivV iv)), ("width", .val (rV w))] y (.own ds) := fun y ds k => by
    rcases k with _ | ⟨_, _ | ⟨_, _ | ⟨_, k⟩⟩⟩; cases k
  refine wpAny_execs_cons ?_
  refine wpAny_Try_except ?_
  have p1 := S.pre (s := ⟨h₁, s.gens, s.drawn, tk, s.os⟩) ro1
  refine wpAny_execs_cons (wpAny_Return_some ?_)
  refine wpAny_Call_NameR (loadG p1 (by rfl) hmr ?_ (by decide))
  refine callWith_def hdr ?_ rfl
  refine (?ha : EVs C 10 _ [("f", .val (pI f)), ("interval", .val (ivV iv)), ("width", .val (rV w))] _ [pI f, ivV iv, rV w]) env _ _ F p1 _ _ _ fun ws F2 h2 tk2 x2 rs2 => ?_
  case ha => walk_at "evs"
  have S2 := S.ext x2
  refine ⟨S2.lt.le _ _ (S2.lt.base _ _ hor), ?_⟩
  -- where the frames stand
  obtain ⟨o0, ho0, hd0⟩ : ∃ o, h2.get? env0.locals = some o ∧ ∃ es ep, o.data = .dict es ep ∧ StrKeys es := by
    obtain ⟨m, o, es, ep, z1, z2, z3, z4⟩ := hN0
    exact ⟨o, x2.keep _ _ (hk₁ _ _ z1), es, ep, z2, z3⟩
  obtain ⟨lF, lG, mL, oL, esL, epL, hoL, hdL, hmL, hfL⟩ := S2.loc
  have ff2 : FF h2 [env, env0] := by
    refine ⟨by rw [S.ok.is, S.ok.fk]; exact (fun z => nomatch z), ⟨env.locals, oL, hfr1, default_none _, hoL, fun vs z => by rw [hdL] at z; cases z⟩, hk0, ⟨env0.locals, o0, hf0, default_none _, ho0, fun vs z => ?_⟩, trivial⟩
    obtain ⟨es, ep, z1, _⟩ := hd0
    rw [z1] at z; cases z
  have fmap : [env, env0].filterMap (·.frame) = [env.locals, env0.locals] := by rw [List.filterMap_cons, hfr1, List.filterMap_cons, hf0]; rfl
  refine hcall _ { s with heap := h2, toks := tk2 } F2 [env, env0] ws (ro1.mono (by decide)) hfr2 ff2 S2.lt.base S2.lt.le rs2 _ _ fun h3 tk3 e D T m3 fE fD fT X3 hNs3 => ?_
  rw [fmap] at m3
  have hloc0 : env.locals ≠ env0.locals := by
    obtain ⟨m, o, es, ep, z1, _⟩ := hN0
    rintro z; rw [z, z1] at hloc; cases hloc
  have ff3 : FF h3 [env, env0] := FF.mv m3 ff2 fun env' hm' L hL => by
    rcases List.mem_cons.mp hm' with rfl | hm'
    · rw [hfr1] at hL; cases hL; rw [hoL]; exact fun z => nomatch z
    · rcases List.mem_cons.mp hm' with rfl | hm'
      · rw [hf0] at hL; cases hL; rw [ho0]; exact fun z => nomatch z
      · cases hm'
  refine note_dict (s := ⟨h3, s.gens, s.drawn, tk3, s.os⟩) hfr2 ff3 hfr1 X3 fun h4 T4 m4 X4 fT4 => ?_
  rw [fmap] at m4
  refine setFlight_dict (s := ⟨h4, s.gens, s.drawn, tk3, s.os⟩) X4 fun h5 m5 X5 => ?_
  have fT4' : h2.get? T4 = none := by
    cases z : h2.get? T4 with
    | none => rfl
    | some o =>
      obtain ⟨sl, e1⟩ := m3.slot T4 o (by rw [z]; exact fun z => nomatch z) z
      have fT4 : h3.get? T4 = none := fT4
      rw [fT4] at e1; cases e1
  have M25 : Mv [env.locals, env0.locals] (fun b => h2.get? b = none) h2 h5 := ((m3.trans m4).trans m5).mono (fun b hb => by
    simp only [List.mem_append, List.mem_cons, List.not_mem_nil, or_false] at hb ⊢
    rcases hb with (hb | hb) | (hb | hb)
    · exact .inl hb
    · exact .inr hb
    · exact .inl hb
    · exact .inr hb) fun b hb => by
    rcases hb with (hb | rfl | rfl) | rfl
    · exact hb
    · exact fT
    · exact fE
    · exact fT4'
  have hX : ∀ b, h2.get? b ≠ none → ¬ h2.get? b = none := fun b hb z => hb z
  have f20 : F2 env0.locals = none := by
    cases z : F2 env0.locals with
    | none => rfl
    | some o =>
      obtain ⟨m, o', es, ep, z1, _⟩ := hN0
      have := x2.fresh env0.locals hF0 (by rw [z]; exact fun q => nomatch q)
      rw [hk₁ _ _ z1] at this; cases this
  have hSl : ∀ b ∈ [env.locals, env0.locals], F2 b = none ∧ (if b = env0.locals then none else s.heap.get? b) = none ∧ ∀ vs k, h2.get? b ≠ some (lstO vs k) := fun b hb => by
    rcases List.mem_cons.mp hb with rfl | hb
    · exact ⟨lF, lG, fun vs k z => by rw [hoL] at z; cases z; cases hdL⟩
    · rcases List.mem_cons.mp hb with rfl | hb
      · refine ⟨f20, by simp, fun vs k z => ?_⟩
        obtain ⟨es, ep, z1, _⟩ := hd0
        rw [ho0] at z; cases z; cases z1
      · cases hb
  have S5 := S2.mv M25 hX hSl
  have up5 : ∀ b o, C.b0.get? b = some o → h5.get? b = some o := fun b o z => S5.lt.le b o (S5.lt.base b o z)
  obtain ⟨oe5, vs5, oT5, ts5, a1, a2, a3, a4, a5, a6, a7, a8, a9⟩ := id X5
  refine handler_as (C := 31) (N := 30) (nm := nm) (q := q) (bs := bs) (hdct := true) (sn := sn) (sub := sub) (ab := ab) (col := col) (dd := dd) (k0 := k0) (k1 := k1) (k2 := k2) (k3 := k3) (k5 := k5) (bm := casT) (newId := "Exception.__new__") (by decide) ?_
  refine loadG' (s := ⟨h5, s.gens, s.drawn, tk3, s.os⟩) S5.ok up5 (by rfl) (mg_of B C.g (by rfl)) ⟨rfl, up5 _ _ hcls, ⟨oe5, a1, a2⟩, ?_⟩ (by decide)
  refine setFlight_dict (s := ⟨h5, s.gens, s.drawn, tk3, s.os⟩) X5 fun h6 m6 X6 => ?_
  have M26 : Mv [env.locals, env0.locals] (fun b => h2.get? b = none) h2 h6 := (M25.trans m6).mono (fun b hb => by simpa using hb) fun b hb => by
    rcases hb with hb | rfl
    · exact hb
    · exact fT4'
  have S6 := S2.mv M26 hX hSl
  obtain ⟨oe, vse, oT, tse, b1, b2, b3, b4, _, _, _, _, _⟩ := X6
  -- the dict stands
  obtain ⟨mA, w5, ⟨oD, esD, epD, d1, d2, d3, d4, d5⟩, d6⟩ := hNs3
  have hDT : ∀ {b : Addr} {o : Obj}, h3.get? b = some o → (∃ es ep, o.data = .dict es ep) → ¬ (b = T ∨ b = e) := fun z1 ⟨es, ep, z2⟩ z3 => by
    obtain ⟨oe3, vs3, oT3, ts3, g1, g2, g3, g4, g5, g6, g7, g8, g9⟩ := X3
    rcases z3 with rfl | rfl
    · have g7 : h3.get? _ = some oT3 := g7
      rw [z1] at g7; cases g7; rw [z2] at g8; cases g8
    · have g1 : h3.get? _ = some oe3 := g1
      rw [z1] at g1; cases g1; rw [z2] at g4; cases g4
  obtain ⟨sl4, e4⟩ := m4.slot D oD (hDT d1 ⟨_, _, d2⟩) d1
  have neDT4 : D ≠ T4 := by
    rintro rfl
    have fT4 : h3.get? D = none := fT4
    rw [d1] at fT4; cases fT4
  have e5 := (m5.trans m6).slot D _ (by rintro (z | z) <;> exact neDT4 z) e4
  obtain ⟨sl6, e6⟩ := e5
  have loD : env.locals ≠ D := by rintro z; rw [← z, hoL] at fD; cases fD
  have loE : env.locals ≠ e := by rintro z; rw [← z, hoL] at fE; cases fE
  have ceOld : ∀ y c, env.cells.lookup y = some c → h2.get? c ≠ none := fun y c hc z => by
    obtain ⟨_, _, v, o, ho, hd⟩ := S2.cell y c hc
    rw [z] at ho; cases ho
  obtain ⟨sl0, e0⟩ := M26.slot env0.locals o0 (by rw [ho0]; exact fun z => nomatch z) ho0
  have S7 := ((S6.addF b1 loE (fun y c hc z => ceOld y c hc (z ▸ fE)) noOwn).addF e6 loD (fun y c hc z => ceOld y c hc (z ▸ fD)) noOwn).addF e0 hloc0 (fun y c hc z => by
    obtain ⟨_, _, v, o, ho, hd⟩ := S2.cell y c hc
    rw [z, ho0] at ho; cases ho
    obtain ⟨es, ep, z1, _⟩ := hd0
    rw [hd] at z1; cases z1) noOwn
  have hDe : D ≠ e := by
    rintro rfl
    have := e6.symm.trans b1
    cases this
    rw [d2] at b4; cases b4
  have h0e : env0.locals ≠ e := by rintro z; rw [z, fE] at ho0; cases ho0
  have h0D : env0.locals ≠ D := by rintro z; rw [z, fD] at ho0; cases ho0
  refine storeVar (s := ⟨h6, s.gens, s.drawn, tk3, s.os⟩) S7 (t := .val (.raw (.ref e))) (r' := [("f", .val (pI f)), ("interval", .val (ivV iv)), ("width", .val (rV w)), ("wrong", .val (.raw (.ref e)))]) (.next (by decide) (.next (by decide) (.next (by decide) .nil))) (.inl (by rfl)) (by show Rep _ _ _; unfold Rep; rfl) (fun ds z => by cases z) fun h7 tk7 S8 _ => ?_
  have up7 : ∀ b o, C.b0.get? b = some o → h7.get? b = some o := fun b o z => S8.lt.le b o (S8.lt.base b o z)
  have e7 : h7.get? e = some oe := S8.lt.le _ _ (by unfold PM.add; rw [if_neg (Ne.symm h0e), if_neg (Ne.symm hDe), if_pos rfl])
  have D7 := S8.lt.le D _ (by unfold PM.add; rw [if_neg (Ne.symm h0D), if_pos rfl])
  obtain ⟨vw, vw1, vw2⟩ := S8.vals "wrong" (.raw (.ref e)) (by walk_at "lk")
  obtain rfl := (by unfold Rep at vw2; exact vw2 : vw = .ref e)
  refine wpAny_execs_cons (wpAny_Return_some (attr_of (wpAny_Name (loadVar (s := ⟨h7, s.gens, s.drawn, tk7, s.os⟩) S8.ok vw1 ?_ (by decide)) (by decide))))
  refine excf_attr PySem.F.attrBase_Exception (up7 _ _ hcls) (hns.keeps up7) hga hgt hki (by rw [typeLookup_type, builtinLookup_eq_fast]; kernel_rfl) ⟨oe, e7, b2, (fun c z => by rw [b4] at z; cases z), .inr ⟨D, b3, hDe, ⟨_, esD, epD, D7, d2, d3, d4, d5⟩⟩⟩ d6 rfl fun t7 => ?_
  refine wpAny_bind (wpAny_bindName (storeVar (s := ⟨h7, s.gens, s.drawn, t7, s.os⟩) S8 (t := .val .none) (r' := [("f", .val (pI f)), ("interval", .val (ivV iv)), ("width", .val (rV w)), ("wrong", .val .none)]) (.next (by decide) (.next (by decide) (.next (by decide) .here))) (.inl (by rfl)) (by show Rep _ _ _; unfold Rep; rfl) (fun ds z => by cases z) fun h8 tk8 S9 _ => ?_))
  obtain ⟨vn, vn1, vn2⟩ := S9.vals "wrong" .none (by walk_at "lk")
  have kw : env.kindOf "wrong" = some .local := by rw [S9.ok.kind]; rfl
  obtain ⟨mW, hnW, hmW⟩ : ∃ m, h8.Ns env.locals m ∧ m "wrong" = some vn := by
    rcases vn1 with ⟨_, m, z1, z2⟩ | ⟨z, _⟩
    · exact ⟨m, z1, z2⟩
    · rw [kw] at z; rcases z with z | z <;> cases z
  unfold unbindBehindTheSuite
  refine wpAny_onRaise (wpAny_unbindName_local kw hnW hmW (by rw [S9.ok.is, S9.ok.fk]; rfl) fun h9 u9 hn9 hs9 => ?_)
  have back0 : ∀ o, s.heap.get? env0.locals = some o → o = o0 := fun o z => by
    have := x2.keep _ _ (hk₁ _ _ z)
    rw [ho0] at this; cases this; rfl
  have keep9 : ∀ b o, b ≠ env0.locals → s.heap.get? b = some o → h9.get? b = some o := fun b o hne z => by
    refine (hs9.2 b ?_).trans (S9.lt.keep b o (by simp only [hne, if_false]; exact z))
    rintro rfl; rw [z] at hloc; cases hloc
  refine hQ h9 tk8 w5 ⟨fun b o hb hs z => keep9 b o (fun q => hs (List.mem_singleton.mpr q)) z, fun b o hb z => ?_⟩
  by_cases c : b = env0.locals
  · subst c
    obtain rfl := back0 o z
    exact ⟨sl0, (hs9.2 _ (Ne.symm hloc0)).trans (S9.lt.le _ _ PM.add_self)⟩
  · exact ⟨o.slots, keep9 b o c z⟩
theorem EW.toldBad {C : Cx} (B : Bd C) {n : Nat} {sc : Scope} {r r' : List (Str × Sl)} {np pos : Pos} {e : Expr} {es : List Expr} {f : List Int} {iv : Iv} {w : Int × Int} (hz : RZ C 9 "refine" [pI f, ivV iv, rV w]) (hk : sc.names.lookup (Str.ofString "_law_told") = some .globalImplicit)
    (ha : EWs C n sc r (e :: es) [pI f, ivV iv, rV w] r') (hn : 11 ≤ n) (he : ∀ env, starEach (e :: es) env = (false, eval e env) :: starEach es env := by intro _; rfl) : EW C n sc r (.Call (.Name "_law_told" np) (e :: es) [] pos) (.str casK) r' := by
  intro env A s F G F0 S ro le Q E hq
  obtain ⟨ft, o, fd, hm, ho, hd, hcall⟩ := told_bad B hz
  refine wpAny_Call_NameR (loadG (S.pre ro) hk hm ?_ (by decide))
  refine callWith_def hd (ha env A s F G F0 S ro le pos _ _ fun vs F1 h1 tk1 up1 S1 rs => ⟨S1.lt.le _ _ (S1.lt.base _ _ ho), ?_⟩) (he env)
  obtain ⟨l1, l2, m, hN⟩ := S1.loc
  refine hcall A { s with heap := h1, toks := tk1 } F1 vs env (ro.mono hn) le.1 le.2 (by rw [S.ok.is, S.ok.fk]; exact fun z => nomatch z) l1 ⟨m, hN⟩ S1.lt.base S1.lt.le rs Q E fun h' tk' u mv => ?_
  refine hq _ F1 h' tk' up1 (S1.mv mv (fun b hb z => hb z) fun b hb => ?_) rep_str
  obtain rfl := List.mem_singleton.mp hb
  refine ⟨l1, l2, fun vs k z => ?_⟩
  obtain ⟨o', es', ep, z1, z2, _⟩ := hN
  rw [z] at z1; cases z1; cases z2
theorem EV.slice20 {C : Cx} {n : Nat} {sc : Scope} {r : List (Str × Sl)} {x : Str} {np sp pos cp : Pos} {kd : Nat} {a : Addr} {vs : List Value} {ns : List Int} (k : LK r x (.val (.raw (.ref a)))) (hL : C.b0.IsList a vs.toArray) (hI : IntsAre vs ns) (hlen : vs.length ≤ 1000)
    (hd : (x == ("__debug__" : Str)) = false := by decide) (hcd : (x == ("__classdict__" : Str)) = false := by decide) :
    EV C n sc r (.Subscript (.Name x np) (.Slice none (some (.Constant (.int 20) kd cp)) none sp) pos) (pI (ns.take 20)) := by
  intro env A s F p Q E hq
  have hL' : ∀ {h : Heap}, Sub F h.get? → h.IsList a vs.toArray := fun le => by
    obtain ⟨o, z1, z2⟩ := hL
    exact ⟨o, le _ _ (p.base _ _ z1), z2⟩
  refine wpAny_Subscript_list_slice (EV.var k hd hcd env A s F p _ _ fun v1 F1 h1' tk1 x1 r1 => ?_) (by intro _ _; rfl)
  obtain rfl := (by unfold Rep at r1; exact r1 : v1 = .ref a)
  refine wpAny_evalPart_none (wpAny_evalPart_some (EV.cint (C := C) (n := n) (sc := sc) (r := r) (i := 20) (k := kd) (pos := cp) env A _ F1 (p.next x1) _ _ fun v2 F2 h2' tk2 x2 r2 => ?_))
  obtain ⟨t, rfl⟩ := r2.int'
  refine ⟨a, vs.toArray, none, some 20, rfl, hL' (fun b o z => x2.le b o (x2.up b o (x1.up b o z))), ?_, .none, .int 20 t, ?_⟩
  · rw [List.size_toArray, sizeLine_eq]; exact Nat.le_trans hlen (by decide)
  · rw [show slicePick vs.toArray none (some (20 : Int)) none = (vs.take 20).toArray by simpa using slicePick_upto' vs.toArray 20]
    have e1 : Ext F2 h2' F2 (h2'.push { cls := .type "slice", data := .fields #[.none, .int 20 t, .none] }) := Ext.of_keep x2.le (push_keep _ _)
    have hq2 := ((hq.up x1).up (tk' := tk2) x2).up (tk' := tk2) e1
    have hri : ∀ {vs : List Value} {ns : List Int}, IntsAre vs ns → Reps F2 vs (ns.map .int) := fun h => by
      induction h with
      | nil => exact Reps.nil
      | cons n t _ ih => exact Reps.cons rep_int ih
    have hr : Reps F2 (vs.take 20) ((ns.take 20).map .int) := by rw [List.map_take]; exact (hri hI).take 20
    have := hq2.lst (vs := vs.take 20) e1.le hr (by rw [List.length_map, List.length_take]; unfold cap; omega) tk2
    rw [show (h2'.push { cls := .type "slice", data := .fields #[.none, .int 20 t, .none] }).objs.size = h2'.objs.size + 1 from Heap.size_push ..] at this
    exact this
noncomputable def polyOf (n l : Int) : Nat → List Int
  | 0 => [0 - n, l]
  | 1 => [0 - n, 0, l]
  | _ => [0, 0 - n, 0, l]
noncomputable def okIv (f : List Int) (iv : Iv) (w : Int × Int) : Bool := match refineL f iv w with
  | some told => narrowL f iv w told == some true
  | none => false
noncomputable def allW (f : List Int) (iv : Iv) : Bool := (List.range 5).all fun i => (List.range 12).all fun j => okIv f iv (1 + (i : Int), 1 + (j : Int))
noncomputable def okPoly (f : List Int) : Bool := match isolateL f with
  | some ps => (ps.length == f.length - 1) && ps.all fun iv => allW f iv
  | none => false
theorem big_gt : (2000 : Nat) < big := by unfold big; exact Nat.lt_of_lt_of_le (by decide : 2000 < 2 ^ 11) (Nat.pow_le_pow_right (by decide) (by decide))
theorem draw_total (xs : List Int) (c many : Int) (h0 : 0 ≤ c) (h1 : c ≤ 400) (hm : 0 < many) : ∃ v, drawL xs c many = some v ∧ 0 ≤ v ∧ v < many := by
  have hb := big_gt
  unfold drawL
  split
  · rename_i hc
    have : itemI xs (c + 1 - 1) = some (xs.getD c.toNat 0) := itemI_nat (by omega) (by omega)
    rw [this]
    refine ⟨(absI (xs.getD c.toNat 0)).fmod many, ?_, Int.fmod_nonneg_of_pos _ hm, Int.fmod_lt_of_pos _ hm⟩
    show modG _ many = _
    rw [modG, if_pos (by omega)]
  · have e1 : mulG 4 (c + 1) = some (4 * (c + 1)) := by rw [mulG, if_pos ⟨by omega, by omega⟩]
    have e2 : divG (c + 1) 3 = some ((c + 1).fdiv 3) := by rw [divG, if_pos ⟨by decide, by omega⟩]
    rw [e1, e2]
    refine ⟨(4 * (c + 1) + (c + 1).fdiv 3).fmod many, ?_, Int.fmod_nonneg_of_pos _ hm, Int.fmod_lt_of_pos _ hm⟩
    show modG _ many = _
    rw [modG, if_pos (by omega)]
theorem bad_is {d1 d2 : Int} (h1 : 0 ≤ d1) (h2 : d1 < 3) (h3 : 0 ≤ d2) (h4 : d2 < 2) : ∃ u, rcompareL (0 - d1, 1 + d2) (0, 1) = some u ∧ u ≤ 0 := by
  have e1 : d1 = 0 ∨ d1 = 1 ∨ d1 = 2 := by omega
  have e2 : d2 = 0 ∨ d2 = 1 := by omega
  clear h1 h2 h3 h4
  have all : ∀ a ∈ [(0 : Int), 1, 2], ∀ b ∈ [(0 : Int), 1], ((rcompareL (0 - a, 1 + b) (0, 1)).any fun u => decide (u ≤ 0)) = true := by decide +kernel
  have h := all d1 (by simp; omega) d2 (by simp; omega)
  cases q : rcompareL (0 - d1, 1 + d2) (0, 1) with
  | none => rw [q] at h; cases h
  | some u => rw [q] at h; exact ⟨u, rfl, of_decide_eq_true h⟩
theorem zero_is : ∃ u, rcompareL (0, 1) (0, 1) = some u ∧ u ≤ 0 := ⟨0, by decide +kernel, by decide⟩
/-- what the plain law says of one polynomial -/
structure Fine (f : List Int) (ps : List Iv) : Prop where
  iso : isolateL f = some ps
  len : (ps.length : Int) = (f.length : Int) - 1
  few : ps.length ≤ 20
  ok : ∀ iv ∈ ps, ∀ i j : Int, 0 ≤ i → i < 5 → 0 ≤ j → j < 12 → ∃ told, refineL f iv (1 + i, 1 + j) = some told ∧ narrowL f iv (1 + i, 1 + j) told = some true
theorem draw_W {C : Cx} (B : Bd C) {n : Nat} {sc : Scope} {r r' : List (Str × Sl)} {np pp cp pos : Pos} {kk : Nat} {xs : List Int} {c many v : Int} (h : drawL xs c many = some v) (hk : sc.names.lookup (Str.ofString "_law_draw") = some .globalImplicit)
    (k : LK r "pool" (.own [pI xs, .int c])) (U : UPD r "pool" (.own [pI xs, .int (c + 1)]) r') (hn : 1 ≤ n) : EW C n sc r (.Call (.Name "_law_draw" np) [.Name "pool" pp, .Constant (.int many) kk cp] [] pos) (.int v) r' := by
  obtain ⟨f, o, fd, h1, h2, h3, h4⟩ := draw_ok B h
  exact EW.draw hk h1 h2 h3 h4 hn k U (of_decide_eq_true (by rfl)) (by decide) (by decide) (by decide)
noncomputable def withinB (iv0 iv : Iv) : Bool := match mulG iv.1.1 iv0.1.2, mulG iv0.1.1 iv.1.2, mulG iv.2.1 iv0.2.2, mulG iv0.2.1 iv.2.2 with
  | some x1, some x2, some x3, some x4 => decide (x2 ≤ x1) && decide (x3 ≤ x4)
  | _, _, _, _ => false
noncomputable def signsB (f : List Int) (iv : Iv) : Bool := match worthL f iv.1, worthL f iv.2 with
  | some z1, some z2 => match mulG z1 z2 with
    | some z3 => decide (z3 < 0)
    | none => false
  | _, _ => false
noncomputable def smB (a : Int) : Bool := decide (a.natAbs < big)
noncomputable def stopB (f : List Int) (iv0 iv : Iv) (pw wt : Int × Int) : Bool := withinB iv0 iv && (if iv.1 = iv.2 then worthL f iv.1 == some 0 else decide (pw.1 * wt.2 ≤ 2 * wt.1 * pw.2) && (smB (2 * wt.1) && signsB f iv))
/-- the chain of the halvings of iv0, from iv on: whichever width is asked for, where it stops is right -/
noncomputable def chainB (f left : List Int) (iv0 : Iv) : Nat → Iv → Option (Int × Int) → Bool
  | 0, _, _ => false
  | k + 1, iv, prev => match rsubL iv.2 iv.1, wideL iv with
    | some d, some wt => smB d.1 && (smB d.2 && (smB wt.1 && (smB wt.2 && (decide (0 < d.2) && (decide (0 < wt.2) && (decide (d.1 * wt.2 = wt.1 * d.2) &&
      ((match prev with | none => true | some pw => stopB f iv0 iv pw wt) &&
      (decide (12 * wt.1 ≤ wt.2) || match halvedL left iv with
        | some iv' => chainB f left iv0 k iv' (some wt)
        | none => false))))))))
    | _, _ => false
theorem signL_pos {n : Int} : 0 < signL n ↔ 0 < n := by
  unfold signL b2i
  by_cases h : 0 < n
  · have h2 : ¬ n < 0 := by omega
    simp [h, h2]
  · by_cases h2 : n < 0 <;> simp [h, h2]
theorem mulG_sm {a b : Int} (ha : a.natAbs < big) (hb : b.natAbs < big) : mulG a b = some (a * b) := if_pos ⟨ha, hb⟩
theorem within_of {iv0 iv : Iv} (h : withinB iv0 iv = true) : ∃ x1 x2 x3 x4, mulG iv.1.1 iv0.1.2 = some x1 ∧ mulG iv0.1.1 iv.1.2 = some x2 ∧ mulG iv.2.1 iv0.2.2 = some x3 ∧ mulG iv0.2.1 iv.2.2 = some x4 ∧ ¬ (x1 < x2 ∨ x4 < x3) := by
  unfold withinB at h
  split at h
  · rename_i x1 x2 x3 x4 h1 h2 h3 h4
    rw [Bool.and_eq_true, decide_eq_true_eq, decide_eq_true_eq] at h
    exact ⟨x1, x2, x3, x4, h1, h2, h3, h4, by omega⟩
  · cases h
theorem signs_of {f : List Int} {iv : Iv} (h : signsB f iv = true) : ∃ z1 z2 z3, worthL f iv.1 = some z1 ∧ worthL f iv.2 = some z2 ∧ mulG z1 z2 = some z3 ∧ z3 < 0 := by
  unfold signsB at h
  split at h
  · rename_i z1 z2 h1 h2
    split at h
    · rename_i z3 h3
      exact ⟨z1, z2, z3, h1, h2, h3, of_decide_eq_true h⟩
    · cases h
  · cases h
/-- a / b ≤ p / q and a / b = a' / b': a' / b' ≤ p / q -/
theorem ratio_le {a b a' b' p q : Int} (hb : 0 < b) (hb' : 0 < b') (e : a * b' = a' * b) : a * q ≤ p * b ↔ a' * q ≤ p * b' := by
  have e1 : a * q * b' = a' * q * b := by rw [Int.mul_right_comm, e, Int.mul_right_comm]
  have e2 : p * b * b' = p * b' * b := Int.mul_right_comm ..
  constructor
  · intro h
    have h2 := Int.mul_le_mul_of_nonneg_right h (Int.le_of_lt hb')
    rw [e1, e2] at h2
    exact Int.le_of_mul_le_mul_right h2 hb
  · intro h
    have h2 := Int.mul_le_mul_of_nonneg_right h (Int.le_of_lt hb)
    rw [← e1, ← e2] at h2
    exact Int.le_of_mul_le_mul_right h2 hb'
theorem chain_ok {f left : List Int} {iv0 : Iv} {W0 w : Int × Int} (hw1 : 1 ≤ w.1) (hs1 : w.1.natAbs < big) (hw2 : 1 ≤ w.2) (hw12 : w.2 ≤ 12) (hs2 : w.2.natAbs < big)
    (hW : wideL iv0 = some W0) (hW1 : W0.1.natAbs < big) (hW2 : W0.2.natAbs < big) : ∀ (k : Nat) (iv : Iv) (prev : Option (Int × Int)), chainB f left iv0 k iv prev = true → (prev = none → iv = iv0) →
    (∀ pw, prev = some pw → 0 < pw.2 ∧ w.1 * pw.2 < pw.1 * w.2 ∧ w.1 * W0.2 < W0.1 * w.2) → ∃ told, refW k left w iv = some told ∧ narrowL f iv0 w told = some true := by
  intro k
  induction k with
  | zero => intro iv prev h; cases h
  | succ k ih =>
    intro iv prev h hn hp
    unfold chainB at h
    split at h
    rotate_left
    · cases h
    rename_i d wt hd hwt
    simp only [Bool.and_eq_true, decide_eq_true_eq, smB] at h
    obtain ⟨a1, a2, a3, a4, a5, a6, a7, a8, a9⟩ := h
    have hr : rcompareL d w = some (signL (d.1 * w.2 - w.1 * d.2)) := by unfold rcompareL; rw [mulG_sm a1 hs2, mulG_sm hs1 a2]; rfl
    have hrat : d.1 * w.2 ≤ w.1 * d.2 ↔ wt.1 * w.2 ≤ w.1 * wt.2 := ratio_le a5 a6 a7
    unfold refW
    rw [hd]
    simp only [Option.bind_some]
    rw [hr]
    simp only [Option.bind_some, signL_pos]
    by_cases c : 0 < d.1 * w.2 - w.1 * d.2
    · rw [if_pos c]
      have c2 : w.1 * wt.2 < wt.1 * w.2 := by
        have : ¬ wt.1 * w.2 ≤ w.1 * wt.2 := fun z => by have := hrat.mpr z; omega
        omega
      rw [Bool.or_eq_true] at a9
      rcases a9 with a9 | a9
      · have b1 := of_decide_eq_true a9
        exfalso
        have e1 := Int.mul_le_mul_of_nonneg_right hw1 (Int.le_of_lt a6)
        by_cases g : 0 ≤ wt.1
        · have e2 := Int.mul_le_mul_of_nonneg_left hw12 g
          omega
        · have e2 := Int.mul_le_mul_of_nonneg_right (show wt.1 ≤ 0 by omega) (show 0 ≤ w.2 by omega)
          omega
      · split at a9
        rotate_left
        · cases a9
        rename_i iv' hiv'
        rw [hiv']
        simp only [Option.bind_some]
        refine ih iv' (some wt) a9 (fun z => nomatch z) ?_
        rintro pw e
        cases e
        refine ⟨a6, c2, ?_⟩
        cases prev with
        | none =>
          have := hn rfl
          subst this
          rw [hW] at hwt
          cases hwt
          exact c2
        | some pw => exact (hp pw rfl).2.2
    · rw [if_neg c]
      refine ⟨iv, rfl, ?_⟩
      have c2 : wt.1 * w.2 ≤ w.1 * wt.2 := hrat.mp (by omega)
      unfold narrowL
      rw [hW]
      simp only [Option.bind_some]
      rw [mulG_sm hW1 hs2, mulG_sm hs1 hW2]
      simp only [Option.bind_some]
      cases prev with
      | none =>
        have := hn rfl
        subst this
        rw [hW] at hwt
        cases hwt
        rw [if_pos c2]
        simp
      | some pw =>
        obtain ⟨p1, p2, p3⟩ := hp pw rfl
        rw [if_neg (by omega)]
        simp only [stopB, Bool.and_eq_true] at a8
        obtain ⟨a8, b8⟩ := a8
        obtain ⟨x1, x2, x3, x4, g1, g2, g3, g4, g5⟩ := within_of a8
        rw [g1, g2, g3, g4]
        simp only [Option.bind_some]
        rw [if_neg g5]
        by_cases hpt : iv.1 = iv.2
        · rw [if_pos hpt] at b8 ⊢
          rw [beq_iff_eq] at b8
          rw [b8]
          rfl
        · rw [if_neg hpt] at b8 ⊢
          simp only [Bool.and_eq_true, decide_eq_true_eq, smB] at b8
          obtain ⟨b1, b2, b3⟩ := b8
          obtain ⟨z1, z2, z3, k1, k2, k3, k4⟩ := signs_of b3
          rw [hwt]
          simp only [Option.bind_some]
          rw [mulG_sm a3 hs2, mulG_sm hs1 a4]
          simp only [Option.bind_some]
          have h2 : (2 : Int).natAbs < big := Nat.lt_trans (by decide) big_gt
          rw [mulG_sm h2 a3]
          simp only [Option.bind_some]
          rw [mulG_sm b2 hs2]
          simp only [Option.bind_some]
          rw [if_neg ?_, k1, k2]
          · simp only [Option.bind_some]
            rw [k3]
            simp only [Option.bind_some]
            rw [decide_eq_true k4]
          · rintro (z | z)
            · omega
            · have e1 := Int.mul_le_mul_of_nonneg_right z (Int.le_of_lt p1)
              have e2 := Int.mul_lt_mul_of_pos_right p2 a6
              have e3 := Int.mul_le_mul_of_nonneg_right b1 (show 0 ≤ w.2 by omega)
              rw [Int.mul_right_comm w.1 pw.2, Int.mul_right_comm pw.1 w.2] at e2
              rw [Int.mul_right_comm (2 * wt.1) pw.2] at e3
              omega
noncomputable def pieceB (f left : List Int) (iv : Iv) : Bool := match wideL iv with
  | some W => smB W.1 && (smB W.2 && chainB f left iv 100 iv none)
  | none => false
noncomputable def polyB (f : List Int) : Bool := match isolateL f, simplePartL f with
  | some ps, some left => decide (ps.length + 1 = f.length) && (decide (ps.length ≤ 20) && ps.all fun iv => pieceB f left iv)
  | _, _ => false
theorem poly_fine {f : List Int} (h : polyB f = true) : ∃ ps, Fine f ps := by
  unfold polyB at h
  split at h
  rotate_left
  · cases h
  rename_i ps left h1 h2
  simp only [Bool.and_eq_true, decide_eq_true_eq] at h
  obtain ⟨h3, h4, h5⟩ := h
  refine ⟨ps, h1, by omega, h4, fun iv hiv i j hi0 hi1 hj0 hj1 => ?_⟩
  have h6 := List.all_eq_true.mp h5 iv hiv
  unfold pieceB at h6
  split at h6
  rotate_left
  · cases h6
  rename_i W hW
  simp only [Bool.and_eq_true, decide_eq_true_eq, smB] at h6
  obtain ⟨g1, g2, g3⟩ := h6
  have hb := big_gt
  have s1 : (1 + i).natAbs < big := by omega
  have s2 : (1 + j).natAbs < big := by omega
  obtain ⟨told, k1, k2⟩ := chain_ok (w := (1 + i, 1 + j)) (by show 1 ≤ 1 + i; omega) s1 (by show 1 ≤ 1 + j; omega) (by show 1 + j ≤ 12; omega) s2 hW g1 g2 100 iv none g3 (fun _ => rfl) (fun _ e => nomatch e)
  refine ⟨told, ?_, k2⟩
  unfold refineL
  have hr : rcompareL (1 + i, 1 + j) (0, 1) = some (signL ((1 + i) * 1 - 0 * (1 + j))) := by
    unfold rcompareL
    rw [mulG_sm s1 (show (1 : Int).natAbs < big by omega), mulG_sm (show (0 : Int).natAbs < big by omega) s2]
    rfl
  rw [hr]
  simp only [Option.bind_some, signL_pos]
  rw [if_pos (by omega), h2]
  exact k1
theorem pb_2_1_0 : polyB (polyOf 2 1 0) = true := by decide +kernel
theorem pb_2_1_1 : polyB (polyOf 2 1 1) = true := by decide +kernel
theorem pb_2_1_2 : polyB (polyOf 2 1 2) = true := by decide +kernel
theorem pb_2_2_0 : polyB (polyOf 2 2 0) = true := by decide +kernel
theorem pb_2_2_1 : polyB (polyOf 2 2 1) = true := by decide +kernel
theorem pb_2_2_2 : polyB (polyOf 2 2 2) = true := by decide +kernel
theorem pb_2_3_0 : polyB (polyOf 2 3 0) = true := by decide +kernel
theorem pb_2_3_1 : polyB (polyOf 2 3 1) = true := by decide +kernel
theorem pb_2_3_2 : polyB (polyOf 2 3 2) = true := by decide +kernel
theorem pb_3_1_0 : polyB (polyOf 3 1 0) = true := by decide +kernel
theorem pb_3_1_1 : polyB (polyOf 3 1 1) = true := by decide +kernel
theorem pb_3_1_2 : polyB (polyOf 3 1 2) = true := by decide +kernel
theorem pb_3_2_0 : polyB (polyOf 3 2 0) = true := by decide +kernel
theorem pb_3_2_1 : polyB (polyOf 3 2 1) = true := by decide +kernel
theorem pb_3_2_2 : polyB (polyOf 3 2 2) = true := by decide +kernel
theorem pb_3_3_0 : polyB (polyOf 3 3 0) = true := by decide +kernel
theorem pb_3_3_1 : polyB (polyOf 3 3 1) = true := by decide +kernel
theorem pb_3_3_2 : polyB (polyOf 3 3 2) = true := by decide +kernel
theorem pb_4_1_0 : polyB (polyOf 4 1 0) = true := by decide +kernel
theorem pb_4_1_1 : polyB (polyOf 4 1 1) = true := by decide +kernel
theorem pb_4_1_2 : polyB (polyOf 4 1 2) = true := by decide +kernel
theorem pb_4_2_0 : polyB (polyOf 4 2 0) = true := by decide +kernel
theorem pb_4_2_1 : polyB (polyOf 4 2 1) = true := by decide +kernel
theorem pb_4_2_2 : polyB (polyOf 4 2 2) = true := by decide +kernel
theorem pb_4_3_0 : polyB (polyOf 4 3 0) = true := by decide +kernel
theorem pb_4_3_1 : polyB (polyOf 4 3 1) = true := by decide +kernel
theorem pb_4_3_2 : polyB (polyOf 4 3 2) = true := by decide +kernel
theorem pb_5_1_0 : polyB (polyOf 5 1 0) = true := by decide +kernel
theorem pb_5_1_1 : polyB (polyOf 5 1 1) = true := by decide +kernel
theorem pb_5_1_2 : polyB (polyOf 5 1 2) = true := by decide +kernel
theorem pb_5_2_0 : polyB (polyOf 5 2 0) = true := by decide +kernel
theorem pb_5_2_1 : polyB (polyOf 5 2 1) = true := by decide +kernel
theorem pb_5_2_2 : polyB (polyOf 5 2 2) = true := by decide +kernel
theorem pb_5_3_0 : polyB (polyOf 5 3 0) = true := by decide +kernel
theorem pb_5_3_1 : polyB (polyOf 5 3 1) = true := by decide +kernel
theorem pb_5_3_2 : polyB (polyOf 5 3 2) = true := by decide +kernel
theorem pb_6_1_0 : polyB (polyOf 6 1 0) = true := by decide +kernel
theorem pb_6_1_1 : polyB (polyOf 6 1 1) = true := by decide +kernel
theorem pb_6_1_2 : polyB (polyOf 6 1 2) = true := by decide +kernel
theorem pb_6_2_0 : polyB (polyOf 6 2 0) = true := by decide +kernel
theorem pb_6_2_1 : polyB (polyOf 6 2 1) = true := by decide +kernel
theorem pb_6_2_2 : polyB (polyOf 6 2 2) = true := by decide +kernel
theorem pb_6_3_0 : polyB (polyOf 6 3 0) = true := by decide +kernel
theorem pb_6_3_1 : polyB (polyOf 6 3 1) = true := by decide +kernel
theorem pb_6_3_2 : polyB (polyOf 6 3 2) = true := by decide +kernel
theorem pb_7_1_0 : polyB (polyOf 7 1 0) = true := by decide +kernel
theorem pb_7_1_1 : polyB (polyOf 7 1 1) = true := by decide +kernel
theorem pb_7_1_2 : polyB (polyOf 7 1 2) = true := by decide +kernel
theorem pb_7_2_0 : polyB (polyOf 7 2 0) = true := by decide +kernel
theorem pb_7_2_1 : polyB (polyOf 7 2 1) = true := by decide +kernel
theorem pb_7_2_2 : polyB (polyOf 7 2 2) = true := by decide +kernel
theorem pb_7_3_0 : polyB (polyOf 7 3 0) = true := by decide +kernel
theorem pb_7_3_1 : polyB (polyOf 7 3 1) = true := by decide +kernel
theorem pb_7_3_2 : polyB (polyOf 7 3 2) = true := by decide +kernel
theorem pb_8_1_0 : polyB (polyOf 8 1 0) = true := by decide +kernel
theorem pb_8_1_1 : polyB (polyOf 8 1 1) = true := by decide +kernel
theorem pb_8_1_2 : polyB (polyOf 8 1 2) = true := by decide +kernel
theorem pb_8_2_0 : polyB (polyOf 8 2 0) = true := by decide +kernel
theorem pb_8_2_1 : polyB (polyOf 8 2 1) = true := by decide +kernel
theorem pb_8_2_2 : polyB (polyOf 8 2 2) = true := by decide +kernel
theorem pb_8_3_0 : polyB (polyOf 8 3 0) = true := by decide +kernel
theorem pb_8_3_1 : polyB (polyOf 8 3 1) = true := by decide +kernel
theorem pb_8_3_2 : polyB (polyOf 8 3 2) = true := by decide +kernel
theorem pb_9_1_0 : polyB (polyOf 9 1 0) = true := by decide +kernel
theorem pb_9_1_1 : polyB (polyOf 9 1 1) = true := by decide +kernel
theorem pb_9_1_2 : polyB (polyOf 9 1 2) = true := by decide +kernel
theorem pb_9_2_0 : polyB (polyOf 9 2 0) = true := by decide +kernel
theorem pb_9_2_1 : polyB (polyOf 9 2 1) = true := by decide +kernel
theorem pb_9_2_2 : polyB (polyOf 9 2 2) = true := by decide +kernel
theorem pb_9_3_0 : polyB (polyOf 9 3 0) = true := by decide +kernel
theorem pb_9_3_1 : polyB (polyOf 9 3 1) = true := by decide +kernel
theorem pb_9_3_2 : polyB (polyOf 9 3 2) = true := by decide +kernel
theorem pb_10_1_0 : polyB (polyOf 10 1 0) = true := by decide +kernel
theorem pb_10_1_1 : polyB (polyOf 10 1 1) = true := by decide +kernel
theorem pb_10_1_2 : polyB (polyOf 10 1 2) = true := by decide +kernel
theorem pb_10_2_0 : polyB (polyOf 10 2 0) = true := by decide +kernel
theorem pb_10_2_1 : polyB (polyOf 10 2 1) = true := by decide +kernel
theorem pb_10_2_2 : polyB (polyOf 10 2 2) = true := by decide +kernel
theorem pb_10_3_0 : polyB (polyOf 10 3 0) = true := by decide +kernel
theorem pb_10_3_1 : polyB (polyOf 10 3 1) = true := by decide +kernel
theorem pb_10_3_2 : polyB (polyOf 10 3 2) = true := by decide +kernel
theorem all_polyB (n l : Int) (k : Nat) (h1 : 2 ≤ n) (h2 : n ≤ 10) (h3 : 1 ≤ l) (h4 : l ≤ 3) (h5 : k < 3) : polyB (polyOf n l k) = true := by
  have hn : n = 2 ∨ n = 3 ∨ n = 4 ∨ n = 5 ∨ n = 6 ∨ n = 7 ∨ n = 8 ∨ n = 9 ∨ n = 10 := by omega
  have hl : l = 1 ∨ l = 2 ∨ l = 3 := by omega
  have hk : k = 0 ∨ k = 1 ∨ k = 2 := by omega
  clear h1 h2 h3 h4 h5
  rcases hn with rfl | rfl | rfl | rfl | rfl | rfl | rfl | rfl | rfl <;> rcases hl with rfl | rfl | rfl <;> rcases hk with rfl | rfl | rfl
  · exact pb_2_1_0
  · exact pb_2_1_1
  · exact pb_2_1_2
  · exact pb_2_2_0
  · exact pb_2_2_1
  · exact pb_2_2_2
  · exact pb_2_3_0
  · exact pb_2_3_1
  · exact pb_2_3_2
  · exact pb_3_1_0
  · exact pb_3_1_1
  · exact pb_3_1_2
  · exact pb_3_2_0
  · exact pb_3_2_1
  · exact pb_3_2_2
  · exact pb_3_3_0
  · exact pb_3_3_1
  · exact pb_3_3_2
  · exact pb_4_1_0
  · exact pb_4_1_1
  · exact pb_4_1_2
  · exact pb_4_2_0
  · exact pb_4_2_1
  · exact pb_4_2_2
  · exact pb_4_3_0
  · exact pb_4_3_1
  · exact pb_4_3_2
  · exact pb_5_1_0
  · exact pb_5_1_1
  · exact pb_5_1_2
  · exact pb_5_2_0
  · exact pb_5_2_1
  · exact pb_5_2_2
  · exact pb_5_3_0
  · exact pb_5_3_1
  · exact pb_5_3_2
  · exact pb_6_1_0
  · exact pb_6_1_1
  · exact pb_6_1_2
  · exact pb_6_2_0
  · exact pb_6_2_1
  · exact pb_6_2_2
  · exact pb_6_3_0
  · exact pb_6_3_1
  · exact pb_6_3_2
  · exact pb_7_1_0
  · exact pb_7_1_1
  · exact pb_7_1_2
  · exact pb_7_2_0
  · exact pb_7_2_1
  · exact pb_7_2_2
  · exact pb_7_3_0
  · exact pb_7_3_1
  · exact pb_7_3_2
  · exact pb_8_1_0
  · exact pb_8_1_1
  · exact pb_8_1_2
  · exact pb_8_2_0
  · exact pb_8_2_1
  · exact pb_8_2_2
  · exact pb_8_3_0
  · exact pb_8_3_1
  · exact pb_8_3_2
  · exact pb_9_1_0
  · exact pb_9_1_1
  · exact pb_9_1_2
  · exact pb_9_2_0
  · exact pb_9_2_1
  · exact pb_9_2_2
  · exact pb_9_3_0
  · exact pb_9_3_1
  · exact pb_9_3_2
  · exact pb_10_1_0
  · exact pb_10_1_1
  · exact pb_10_1_2
  · exact pb_10_2_0
  · exact pb_10_2_1
  · exact pb_10_2_2
  · exact pb_10_3_0
  · exact pb_10_3_1
  · exact pb_10_3_2
theorem all_fine (n l : Int) (k : Nat) (h1 : 2 ≤ n) (h2 : n ≤ 10) (h3 : 1 ≤ l) (h4 : l ≤ 3) (h5 : k < 3) : ∃ ps, Fine (polyOf n l k) ps := poly_fine (all_polyB n l k h1 h2 h3 h4 h5)
theorem law_body {C : Cx} (B : Bd C) {a : Addr} {vs : List Value} {ns : List Int} (HL : C.b0.IsList a vs.toArray) (HI : IntsAre vs ns) (hlen : vs.length ≤ 63) :
    EXWs C 30 lawD.scope [("script", .val (.raw (.ref a)))] lawD.body (.ret (.bool true)) := by
  show EXWs C 30 _ _ (_ :: _) _
  have hvl := hlen
  refine' EXWs.cons (EX.toW (EX.assignO (EVO.list (EVs.cons (d := pI _) ?c1 (EVs.cons EV.cint EVs.nil)) (hl := ?c5)) ?c2 ?c3 (hs := ?c6))) ?c4
  case c1 =>
    refine' EV.compX .int (ea := .int) (f := fun a => some a) [] RF.nil (mapG_some (fun a => a) _) (IT.list (EV.slice20 LK.here HL HI ?l1)) ?e1 ?l2
    case l1 => omega
    case l2 => rw [List.length_take]; omega
    case e1 =>
      intro a b e
      cases e
      exact EV.intc B (EVs.cons (by walk_at "ev") EVs.nil) (by intro _; rfl) (by intro _ _; rfl) (by rfl) BI.intI
  case c5 => exact of_decide_eq_true (by rfl)
  case c2 => walk_at "upd"
  case c3 => walk_at "loc"
  case c6 => walk_at "sw"
  generalize (List.map (fun a : Int => a) (List.take 20 _)) = xs
  obtain ⟨v1, hv1, hv1a, hv1b⟩ := draw_total xs 0 9 (by decide) (by decide) (by decide)
  obtain ⟨v2, hv2, hv2a, hv2b⟩ := draw_total xs (0 + 1) 3 (by decide) (by decide) (by decide)
  obtain ⟨v3, hv3, hv3a, hv3b⟩ := draw_total xs (0 + 1 + 1) 3 (by decide) (by decide) (by decide)
  refine' EXWs.cons (EXW.sw2 (EWs.cons (EW.bin (EV.toW EV.cint) (draw_W B hv1 ?k1 ?k2 ?k3 ?k4) BIN.add) (EWs.cons (EW.bin (EV.toW EV.cint) (draw_W B hv2 ?k5 ?k6 ?k7 ?k8) BIN.add) EWs.nil)) ?u1 ?u2 ?u3 ?u4 (by intro _; rfl) ?u5) ?rest
  case k1 => rfl
  case k2 => walk_at "lk"
  case k3 => walk_at "upd"
  case k4 => decide
  case k5 => rfl
  case k6 => walk_at "lk"
  case k7 => walk_at "upd"
  case k8 => decide
  case u1 => walk_at "upd"
  case u2 => walk_at "upd"
  case u3 => walk_at "loc"
  case u4 => walk_at "loc"
  case u5 => walk_at "sw"
  have hsel : ∃ k : Nat, k < 3 ∧ itemAt [pI (polyOf (2 + v1) (1 + v2) 0), pI (polyOf (2 + v1) (1 + v2) 1), pI (polyOf (2 + v1) (1 + v2) 2)] v3 = some (pI (polyOf (2 + v1) (1 + v2) k)) := by
    have e : v3 = 0 ∨ v3 = 1 ∨ v3 = 2 := by omega
    rcases e with rfl | rfl | rfl
    · exact ⟨0, by decide, rfl⟩
    · exact ⟨1, by decide, rfl⟩
    · exact ⟨2, by decide, rfl⟩
  obtain ⟨kk, hkk, hsel⟩ := hsel
  obtain ⟨ps, hfine⟩ := all_fine (2 + v1) (1 + v2) kk (by omega) (by omega) (by omega) (by omega) hkk
  refine' EXWs.cons (EXW.assign (EW.itemL (l := [pI (polyOf (2 + v1) (1 + v2) 0), pI (polyOf (2 + v1) (1 + v2) 1), pI (polyOf (2 + v1) (1 + v2) 2)]) ?p1 (draw_W B hv3 ?p2 ?p3 ?p4 ?p5) hsel (by intro _ _; rfl)) ?p6 ?p7 ?p8) ?rest2
  case p1 =>
    show EV _ _ _ _ _ (.lst [.lst [.int (0 - (2 + v1)), .int (1 + v2)], .lst [.int (0 - (2 + v1)), .int 0, .int (1 + v2)], .lst [.int 0, .int (0 - (2 + v1)), .int 0, .int (1 + v2)]])
    walk_at "ev"
  case p2 => rfl
  case p3 => walk_at "lk"
  case p4 => walk_at "upd"
  case p5 => decide
  case p6 => walk_at "upd"
  case p7 => walk_at "loc"
  case p8 => walk_at "sw"
  generalize polyOf (2 + v1) (1 + v2) kk = ff at hfine
  have ciso := isolate_ok B hfine.iso
  refine' EXWs.cons (EX.toW (EX.assign ?q1 ?q2 ?q3)) ?rest3
  case q1 => walk_at "ev"
  case q2 => walk_at "upd"
  case q3 => walk_at "loc"
  refine' EXWs.less (r1 := [("f", .val (pI ff)), ("pieces", .val (.lst (ps.map ivV))), ("pool", .own [pI xs, .int (0 + 1 + 1 + 1)])]) ?s1 ?s2
  case s1 => walk_at "less"
  refine' EXWs.cons (r1 := [("f", .val (pI ff)), ("pieces", .val (.lst (ps.map ivV)))]) (EXW.for (all := ps.map ivV) (IT.list (by walk_at "ev")) ?loop) ?rest4
  case rest4 =>
    have hl := hfine.len
    have he : ((ps.length : Int) == (ff.length : Int) - 1) = true := beq_iff_eq.mpr hl
    refine EXWs.ret (EX.toW (EX.return (d := .bool true) ?_))
    exact EV.conv (by walk_at "ev") (congrArg V.bool he)
  case loop =>
    refine FLW.ind (fun rest r => ∃ c : Int, 0 ≤ c ∧ c + 4 * (rest.length : Int) ≤ 100 ∧ Less r [("f", .val (pI ff)), ("pieces", .val (.lst (ps.map ivV))), ("pool", .own [pI xs, .int c])]) (by walk_at "loc") ⟨0 + 1 + 1 + 1, by decide, by have := hfine.few; omega, Less.refl⟩ ?_ ?_
    · rintro iv rest r hmem ⟨c, hc0, hc1, hl⟩
      have hc2 : c ≤ 96 := by rw [List.length_cons] at hc1; omega
      obtain ⟨d1, hd1, hd1a, hd1b⟩ := draw_total xs c 3 hc0 (by omega) (by decide)
      obtain ⟨d2, hd2, hd2a, hd2b⟩ := draw_total xs (c + 1) 2 (by omega) (by omega) (by decide)
      obtain ⟨d3, hd3, hd3a, hd3b⟩ := draw_total xs (c + 1 + 1) 5 (by omega) (by omega) (by decide)
      obtain ⟨d4, hd4, hd4a, hd4b⟩ := draw_total xs (c + 1 + 1 + 1) 12 (by omega) (by omega) (by decide)
      obtain ⟨u, hu, hu0⟩ := bad_is hd1a hd1b hd2a hd2b
      obtain ⟨u', hu', hu0'⟩ := zero_is
      have z1 := refine_raises B (f := ff) (iv := iv) hu' hu0'
      have z2 := refine_raises B (f := ff) (iv := iv) hu hu0
      obtain ⟨told, ht, hn⟩ := hfine.ok iv hmem d3 d4 hd3a hd3b hd4a hd4b
      have cn := narrow_ok B ht hn
      refine ⟨_, [("f", .val (pI ff)), ("pieces", .val (.lst (ps.map ivV))), ("pool", .own [pI xs, .int (c + 1 + 1 + 1 + 1)])], UPD.less hl (by walk_at "upd"), ?b, c + 1 + 1 + 1 + 1, by omega, by rw [List.length_cons] at hc1; omega, Less.refl⟩
      case b =>
        refine' EXWs.cons (EXW.assign (EW.tuple (EWs.cons (EW.bin (EV.toW EV.cint) (draw_W B hd1 ?ik1 ?ik2 ?ik3 ?ik4) BIN.sub) (EWs.cons (EW.bin (EV.toW EV.cint) (draw_W B hd2 ?ik5 ?ik6 ?ik7 ?ik8) BIN.add) EWs.nil)) (hl := of_decide_eq_true (by rfl))) ?ip6 ?ip7 ?ip8) ?irest
        case ik1 => rfl
        case ik2 => walk_at "lk"
        case ik3 => walk_at "upd"
        case ik4 => decide
        case ik5 => rfl
        case ik6 => walk_at "lk"
        case ik7 => walk_at "upd"
        case ik8 => decide
        case ip6 => walk_at "upd"
        case ip7 => walk_at "loc"
        case ip8 => walk_at "sw"
        refine' EXWs.cons (EXW.if (b := false) (TW.orFF (TW.cmp (EW.toldBad B z1 (by rfl) (EVs.toW ?j1) (by decide)) (EV.toW EV.cstr) CMP.neS) (TW.cmp (EW.toldBad B z2 (by rfl) (EVs.toW ?j2) (by decide)) (EV.toW EV.cstr) CMP.neS)) (fun h => nomatch h) (fun _ => EXWs.nil)) ?jrest
        case j1 => exact EVs.cons (by walk_at "ev") (EVs.cons (by walk_at "ev") (EVs.cons (by walk_at "ev") EVs.nil))
        case j2 => exact EVs.cons (by walk_at "ev") (EVs.cons (by walk_at "ev") (EVs.cons (by walk_at "ev") EVs.nil))
        refine' EXWs.cons (EXW.if (b := false) (TW.not (q := true) (TW.val (EW.callN (by rfl) (EWs.cons (EV.toW ?n1) (EWs.cons (EV.toW ?n2) (EWs.cons (EW.tuple (EWs.cons (EW.bin (EV.toW EV.cint) (draw_W B hd3 ?n3 ?n4 ?n5 ?n6) BIN.add) (EWs.cons (EW.bin (EV.toW EV.cint) (draw_W B hd4 ?n7 ?n8 ?n9 ?m1) BIN.add) EWs.nil)) (hl := of_decide_eq_true (by rfl))) EWs.nil))) cn (by decide)))) (fun h => nomatch h) (fun _ => EXWs.nil)) (EXWs.less ?m2 EXWs.nil)
        case n1 => walk_at "ev"
        case n2 => walk_at "ev"
        case n3 => rfl
        case n4 => walk_at "lk"
        case n5 => walk_at "upd"
        case n6 => decide
        case n7 => rfl
        case n8 => walk_at "lk"
        case n9 => walk_at "upd"
        case m1 => decide
        case m2 => walk_at "less"
    · rintro r ⟨c, _, _, hl⟩
      exact fun y u k => hl y u (by
        cases k with
        | here => walk_at "lk"
        | next _ k =>
          cases k with
          | here => walk_at "lk"
          | next _ k => cases k)
theorem noCell {l : List (Str × NameKind)} (h : ∀ y ∈ l, y.2 ≠ .cell) : ∀ x, l.lookup x ≠ some .cell := fun x hx => by
  have := mem_of_lookup hx
  exact h _ this rfl
theorem len_of_ints {vs : List Value} {ns : List Int} (h : IntsAre vs ns) : vs.length = ns.length := by
  induction h with
  | nil => rfl
  | cons _ _ _ ih => rw [List.length_cons, List.length_cons, ih]
theorem law_end2 {C : Cx} {sc : Scope} {body : List Stmt} {nm : Str} {L fa a : Addr} {cd : Value} {s : Shared} {m : Str → Option Value} {vs : List Value} (B : Bd C) (HL : C.b0.IsList a vs.toArray) (hb : ∀ C : Cx, Bd C → C.b0.IsList a vs.toArray → EXWs C 30 sc [("script", .val (.raw (.ref a)))] body (.ret (.bool true)))
    (F : Fr C.b0 L s.heap m) (hk : sc.kind = .function) (hsc : sc.names.lookup (Str.ofString "script") = some .local) (hm : m "script" = some (.ref a)) (hL : C.b0.get? L = none) (hcell : ∀ x, sc.names.lookup x ≠ some .cell)
    {Q : Flow → Shared → Prop} {E : Value → Shared → Prop} (hQ : ∀ h' tk', Sub C.b0.get? h'.get? → Q (.ret (.bool true)) { s with heap := h', toks := tk' }) :
    wpAny C.M (callerA.deeper (envOf nm sc L fa cd)) (execs body (envOf nm sc L fa cd)) Q E s := law_end (hb C B HL) F hk hsc hm hL hcell hQ
theorem fin_try : PySem.Challenge.rw_pq0193_01.Holds := hd (by
  w_strict (intro w s₀ s₁ mg mb G Y fa o pm cd doc dV kV ho hd hcd hD hmg hg args vals as hpre hlay hrd hwl hlo; have KX := kIn_of Y; refine Ground.open G ?_; intro T B D TE TW; clear D TE TW; wrow_args hpre hlay hrd hwl hlo; refine enter_call ?_; w_top on; refine codeAny_mono ?_ (fun _ _ g => GoodW.toG g); have K0 := below_caller (Top.heap T); w_call any ho hd hcd hD T F; have FR := ‹Fr _ _ _ _›; have HL := ‹Heap.IsList _ _ _›; have HI := ‹IntsAre _ _›; have HG := ‹Shared.gens _ = #[]›; have HC := ‹¬ ((63 : Int) < _)›; refine' Mine.law_end2 (C := ⟨_, _, _, _, _, T.g, T.b, T.builtins, T.nolimit⟩) KX HL ?hb FR (by rfl) (by rfl) (by rfl) ?hL ?hcell ?hQ; (case hL => exact Heap.get?_none_of_le (Nat.le_refl _)); (case hcell => exact Mine.noCell (by decide)); (case hQ => exact fun h' tk' keep => ⟨.inl ⟨_, _, [], rfl, fun cls => rfl, .bool true, (by first | rfl | kernel_rfl | w_fin), unshared_nil⟩, keep, rfl, HG⟩); (case hb => have HN := Mine.len_of_ints HI; clear HL KX FR; intro C B HL2; exact Mine.law_body B HL2 HI (by omega))))
end Mine
end
theorem PySem.Challenge.cw_pq0193_01_holds : PySem.Challenge.rw_pq0193_01.Holds :=
  Mine.fin_try
